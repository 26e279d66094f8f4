import PyProof.Rows.All
import Wide.All
import OpenK.AllK
import Wide.FinOn
import Lean
import PySem.Challenge.RW_pf0012_01
set_option Elab.async false
set_option linter.all false
set_option maxRecDepth 100000
set_option maxHeartbeats 8000000
section
open PySem PySem.W PyProof.Rows
open PySem.PyData (keyHash)
namespace Mine
theorem pick {b : Type} (_ : Option b) (_ : b) (h : False) : False := h
theorem shed {q : Prop} (h : q) (_ : ∀ p : Prop, Nat → False → p) : q := h
namespace hd
noncomputable def B : List Stmt := Challenge.pw_pf0012_01.main.body
noncomputable def at_ (l : List Stmt) (i : Nat) : Stmt := l.getD i (.Pass default)
noncomputable def bo : Stmt → List Stmt | .FunctionDef _ _ b _ _ _ _ _ _ _ => b | .ClassDef _ _ _ b _ _ _ _ _ _ _ => b | _ => []
noncomputable def heap_39 : Params → Frag := (fun
(n31 : Str) (p31 : Arguments) (b31 : List Stmt) (d31 : List Expr) (r31 : Option Expr) (y31 : List TypeParam) (s31 : Scope) (z31 : Option Scope) (i31 : Str) (q31 : Pos) (_ : Stmt.FunctionDef n31 p31 b31 d31 r31 y31 s31 z31 i31 q31 = (at_ (bo (at_ B 3)) 0))
(n44 : Str) (p44 : Arguments) (b44 : List Stmt) (d44 : List Expr) (r44 : Option Expr) (y44 : List TypeParam) (s44 : Scope) (z44 : Option Scope) (i44 : Str) (q44 : Pos) (_ : Stmt.FunctionDef n44 p44 b44 d44 r44 y44 s44 z44 i44 q44 = (at_ B 4))
(n51 : Str) (p51 : Arguments) (b51 : List Stmt) (d51 : List Expr) (r51 : Option Expr) (y51 : List TypeParam) (s51 : Scope) (z51 : Option Scope) (i51 : Str) (q51 : Pos) (_ : Stmt.FunctionDef n51 p51 b51 d51 r51 y51 s51 z51 i51 q51 = (at_ B 5))
(n58 : Str) (p58 : Arguments) (b58 : List Stmt) (d58 : List Expr) (r58 : Option Expr) (y58 : List TypeParam) (s58 : Scope) (z58 : Option Scope) (i58 : Str) (q58 : Pos) (_ : Stmt.FunctionDef n58 p58 b58 d58 r58 y58 s58 z58 i58 q58 = (at_ B 6))
(n65 : Str) (p65 : Arguments) (b65 : List Stmt) (d65 : List Expr) (r65 : Option Expr) (y65 : List TypeParam) (s65 : Scope) (z65 : Option Scope) (i65 : Str) (q65 : Pos) (_ : Stmt.FunctionDef n65 p65 b65 d65 r65 y65 s65 z65 i65 q65 = (at_ B 7))
(n72 : Str) (p72 : Arguments) (b72 : List Stmt) (d72 : List Expr) (r72 : Option Expr) (y72 : List TypeParam) (s72 : Scope) (z72 : Option Scope) (i72 : Str) (q72 : Pos) (_ : Stmt.FunctionDef n72 p72 b72 d72 r72 y72 s72 z72 i72 q72 = (at_ B 8))
(n80 : Str) (p80 : Arguments) (b80 : List Stmt) (d80 : List Expr) (r80 : Option Expr) (y80 : List TypeParam) (s80 : Scope) (z80 : Option Scope) (i80 : Str) (q80 : Pos) (_ : Stmt.FunctionDef n80 p80 b80 d80 r80 y80 s80 z80 i80 q80 = (at_ B 14))
(n87 : Str) (p87 : Arguments) (b87 : List Stmt) (d87 : List Expr) (r87 : Option Expr) (y87 : List TypeParam) (s87 : Scope) (z87 : Option Scope) (i87 : Str) (q87 : Pos) (_ : Stmt.FunctionDef n87 p87 b87 d87 r87 y87 s87 z87 i87 q87 = (at_ B 15))
(n94 : Str) (p94 : Arguments) (b94 : List Stmt) (d94 : List Expr) (r94 : Option Expr) (y94 : List TypeParam) (s94 : Scope) (z94 : Option Scope) (i94 : Str) (q94 : Pos) (_ : Stmt.FunctionDef n94 p94 b94 d94 r94 y94 s94 z94 i94 q94 = (at_ B 16))
(n101 : Str) (p101 : Arguments) (b101 : List Stmt) (d101 : List Expr) (r101 : Option Expr) (y101 : List TypeParam) (s101 : Scope) (z101 : Option Scope) (i101 : Str) (q101 : Pos) (_ : Stmt.FunctionDef n101 p101 b101 d101 r101 y101 s101 z101 i101 q101 = (at_ B 17))
(n108 : Str) (p108 : Arguments) (b108 : List Stmt) (d108 : List Expr) (r108 : Option Expr) (y108 : List TypeParam) (s108 : Scope) (z108 : Option Scope) (i108 : Str) (q108 : Pos) (_ : Stmt.FunctionDef n108 p108 b108 d108 r108 y108 s108 z108 i108 q108 = (at_ B 18))
(n115 : Str) (p115 : Arguments) (b115 : List Stmt) (d115 : List Expr) (r115 : Option Expr) (y115 : List TypeParam) (s115 : Scope) (z115 : Option Scope) (i115 : Str) (q115 : Pos) (_ : Stmt.FunctionDef n115 p115 b115 d115 r115 y115 s115 z115 i115 q115 = (at_ B 19))
(n122 : Str) (p122 : Arguments) (b122 : List Stmt) (d122 : List Expr) (r122 : Option Expr) (y122 : List TypeParam) (s122 : Scope) (z122 : Option Scope) (i122 : Str) (q122 : Pos) (_ : Stmt.FunctionDef n122 p122 b122 d122 r122 y122 s122 z122 i122 q122 = (at_ B 20))
(n129 : Str) (p129 : Arguments) (b129 : List Stmt) (d129 : List Expr) (r129 : Option Expr) (y129 : List TypeParam) (s129 : Scope) (z129 : Option Scope) (i129 : Str) (q129 : Pos) (_ : Stmt.FunctionDef n129 p129 b129 d129 r129 y129 s129 z129 i129 q129 = (at_ B 21))
(n136 : Str) (p136 : Arguments) (b136 : List Stmt) (d136 : List Expr) (r136 : Option Expr) (y136 : List TypeParam) (s136 : Scope) (z136 : Option Scope) (i136 : Str) (q136 : Pos) (_ : Stmt.FunctionDef n136 p136 b136 d136 r136 y136 s136 z136 i136 q136 = (at_ B 22))
(n143 : Str) (p143 : Arguments) (b143 : List Stmt) (d143 : List Expr) (r143 : Option Expr) (y143 : List TypeParam) (s143 : Scope) (z143 : Option Scope) (i143 : Str) (q143 : Pos) (_ : Stmt.FunctionDef n143 p143 b143 d143 r143 y143 s143 z143 i143 q143 = (at_ B 26))
(n150 : Str) (p150 : Arguments) (b150 : List Stmt) (d150 : List Expr) (r150 : Option Expr) (y150 : List TypeParam) (s150 : Scope) (z150 : Option Scope) (i150 : Str) (q150 : Pos) (_ : Stmt.FunctionDef n150 p150 b150 d150 r150 y150 s150 z150 i150 q150 = (at_ B 27))
(n157 : Str) (p157 : Arguments) (b157 : List Stmt) (d157 : List Expr) (r157 : Option Expr) (y157 : List TypeParam) (s157 : Scope) (z157 : Option Scope) (i157 : Str) (q157 : Pos) (_ : Stmt.FunctionDef n157 p157 b157 d157 r157 y157 s157 z157 i157 q157 = (at_ B 28))
(n164 : Str) (p164 : Arguments) (b164 : List Stmt) (d164 : List Expr) (r164 : Option Expr) (y164 : List TypeParam) (s164 : Scope) (z164 : Option Scope) (i164 : Str) (q164 : Pos) (_ : Stmt.FunctionDef n164 p164 b164 d164 r164 y164 s164 z164 i164 q164 = (at_ B 29))
(n171 : Str) (p171 : Arguments) (b171 : List Stmt) (d171 : List Expr) (r171 : Option Expr) (y171 : List TypeParam) (s171 : Scope) (z171 : Option Scope) (i171 : Str) (q171 : Pos) (_ : Stmt.FunctionDef n171 p171 b171 d171 r171 y171 s171 z171 i171 q171 = (at_ B 30))
(n178 : Str) (p178 : Arguments) (b178 : List Stmt) (d178 : List Expr) (r178 : Option Expr) (y178 : List TypeParam) (s178 : Scope) (z178 : Option Scope) (i178 : Str) (q178 : Pos) (_ : Stmt.FunctionDef n178 p178 b178 d178 r178 y178 s178 z178 i178 q178 = (at_ B 31))
(n185 : Str) (p185 : Arguments) (b185 : List Stmt) (d185 : List Expr) (r185 : Option Expr) (y185 : List TypeParam) (s185 : Scope) (z185 : Option Scope) (i185 : Str) (q185 : Pos) (_ : Stmt.FunctionDef n185 p185 b185 d185 r185 y185 s185 z185 i185 q185 = (at_ B 32))
(n192 : Str) (p192 : Arguments) (b192 : List Stmt) (d192 : List Expr) (r192 : Option Expr) (y192 : List TypeParam) (s192 : Scope) (z192 : Option Scope) (i192 : Str) (q192 : Pos) (_ : Stmt.FunctionDef n192 p192 b192 d192 r192 y192 s192 z192 i192 q192 = (at_ B 33))
(n199 : Str) (p199 : Arguments) (b199 : List Stmt) (d199 : List Expr) (r199 : Option Expr) (y199 : List TypeParam) (s199 : Scope) (z199 : Option Scope) (i199 : Str) (q199 : Pos) (_ : Stmt.FunctionDef n199 p199 b199 d199 r199 y199 s199 z199 i199 q199 = (at_ B 34))
(n206 : Str) (p206 : Arguments) (b206 : List Stmt) (d206 : List Expr) (r206 : Option Expr) (y206 : List TypeParam) (s206 : Scope) (z206 : Option Scope) (i206 : Str) (q206 : Pos) (_ : Stmt.FunctionDef n206 p206 b206 d206 r206 y206 s206 z206 i206 q206 = (at_ B 35))
(n213 : Str) (p213 : Arguments) (b213 : List Stmt) (d213 : List Expr) (r213 : Option Expr) (y213 : List TypeParam) (s213 : Scope) (z213 : Option Scope) (i213 : Str) (q213 : Pos) (_ : Stmt.FunctionDef n213 p213 b213 d213 r213 y213 s213 z213 i213 q213 = (at_ B 36))
(n220 : Str) (p220 : Arguments) (b220 : List Stmt) (d220 : List Expr) (r220 : Option Expr) (y220 : List TypeParam) (s220 : Scope) (z220 : Option Scope) (i220 : Str) (q220 : Pos) (_ : Stmt.FunctionDef n220 p220 b220 d220 r220 y220 s220 z220 i220 q220 = (at_ B 37))
(n227 : Str) (p227 : Arguments) (b227 : List Stmt) (d227 : List Expr) (r227 : Option Expr) (y227 : List TypeParam) (s227 : Scope) (z227 : Option Scope) (i227 : Str) (q227 : Pos) (_ : Stmt.FunctionDef n227 p227 b227 d227 r227 y227 s227 z227 i227 q227 = (at_ B 38))
(n234 : Str) (p234 : Arguments) (b234 : List Stmt) (d234 : List Expr) (r234 : Option Expr) (y234 : List TypeParam) (s234 : Scope) (z234 : Option Scope) (i234 : Str) (q234 : Pos) (_ : Stmt.FunctionDef n234 p234 b234 d234 r234 y234 s234 z234 i234 q234 = (at_ B 39))
(n241 : Str) (p241 : Arguments) (b241 : List Stmt) (d241 : List Expr) (r241 : Option Expr) (y241 : List TypeParam) (s241 : Scope) (z241 : Option Scope) (i241 : Str) (q241 : Pos) (_ : Stmt.FunctionDef n241 p241 b241 d241 r241 y241 s241 z241 i241 q241 = (at_ B 40))
(n248 : Str) (p248 : Arguments) (b248 : List Stmt) (d248 : List Expr) (r248 : Option Expr) (y248 : List TypeParam) (s248 : Scope) (z248 : Option Scope) (i248 : Str) (q248 : Pos) (_ : Stmt.FunctionDef n248 p248 b248 d248 r248 y248 s248 z248 i248 q248 = (at_ B 41))
(n255 : Str) (p255 : Arguments) (b255 : List Stmt) (d255 : List Expr) (r255 : Option Expr) (y255 : List TypeParam) (s255 : Scope) (z255 : Option Scope) (i255 : Str) (q255 : Pos) (_ : Stmt.FunctionDef n255 p255 b255 d255 r255 y255 s255 z255 i255 q255 = (at_ B 42))
(n262 : Str) (p262 : Arguments) (b262 : List Stmt) (d262 : List Expr) (r262 : Option Expr) (y262 : List TypeParam) (s262 : Scope) (z262 : Option Scope) (i262 : Str) (q262 : Pos) (_ : Stmt.FunctionDef n262 p262 b262 d262 r262 y262 s262 z262 i262 q262 = (at_ B 43))
(n269 : Str) (p269 : Arguments) (b269 : List Stmt) (d269 : List Expr) (r269 : Option Expr) (y269 : List TypeParam) (s269 : Scope) (z269 : Option Scope) (i269 : Str) (q269 : Pos) (_ : Stmt.FunctionDef n269 p269 b269 d269 r269 y269 s269 z269 i269 q269 = (at_ B 44))
(n274 : Str) (p274 : Arguments) (b274 : List Stmt) (d274 : List Expr) (r274 : Option Expr) (y274 : List TypeParam) (s274 : Scope) (z274 : Option Scope) (i274 : Str) (q274 : Pos) (_ : Stmt.FunctionDef n274 p274 b274 d274 r274 y274 s274 z274 i274 q274 = (at_ B 45))
(n281 : Str) (p281 : Arguments) (b281 : List Stmt) (d281 : List Expr) (r281 : Option Expr) (y281 : List TypeParam) (s281 : Scope) (z281 : Option Scope) (i281 : Str) (q281 : Pos) (_ : Stmt.FunctionDef n281 p281 b281 d281 r281 y281 s281 z281 i281 q281 = (at_ B 46))
(n288 : Str) (p288 : Arguments) (b288 : List Stmt) (d288 : List Expr) (r288 : Option Expr) (y288 : List TypeParam) (s288 : Scope) (z288 : Option Scope) (i288 : Str) (q288 : Pos) (_ : Stmt.FunctionDef n288 p288 b288 d288 r288 y288 s288 z288 i288 q288 = (at_ B 47))
(n295 : Str) (p295 : Arguments) (b295 : List Stmt) (d295 : List Expr) (r295 : Option Expr) (y295 : List TypeParam) (s295 : Scope) (z295 : Option Scope) (i295 : Str) (q295 : Pos) (_ : Stmt.FunctionDef n295 p295 b295 d295 r295 y295 s295 z295 i295 q295 = (at_ B 48))
(n302 : Str) (p302 : Arguments) (b302 : List Stmt) (d302 : List Expr) (r302 : Option Expr) (y302 : List TypeParam) (s302 : Scope) (z302 : Option Scope) (i302 : Str) (q302 : Pos) (_ : Stmt.FunctionDef n302 p302 b302 d302 r302 y302 s302 z302 i302 q302 = (at_ B 49))
(n309 : Str) (p309 : Arguments) (b309 : List Stmt) (d309 : List Expr) (r309 : Option Expr) (y309 : List TypeParam) (s309 : Scope) (z309 : Option Scope) (i309 : Str) (q309 : Pos) (_ : Stmt.FunctionDef n309 p309 b309 d309 r309 y309 s309 z309 i309 q309 = (at_ B 50))
(n316 : Str) (p316 : Arguments) (b316 : List Stmt) (d316 : List Expr) (r316 : Option Expr) (y316 : List TypeParam) (s316 : Scope) (z316 : Option Scope) (i316 : Str) (q316 : Pos) (_ : Stmt.FunctionDef n316 p316 b316 d316 r316 y316 s316 z316 i316 q316 = (at_ B 51))
(n321 : Str) (p321 : Arguments) (b321 : List Stmt) (d321 : List Expr) (r321 : Option Expr) (y321 : List TypeParam) (s321 : Scope) (z321 : Option Scope) (i321 : Str) (q321 : Pos) (_ : Stmt.FunctionDef n321 p321 b321 d321 r321 y321 s321 z321 i321 q321 = (at_ B 52))
(n326 : Str) (p326 : Arguments) (b326 : List Stmt) (d326 : List Expr) (r326 : Option Expr) (y326 : List TypeParam) (s326 : Scope) (z326 : Option Scope) (i326 : Str) (q326 : Pos) (_ : Stmt.FunctionDef n326 p326 b326 d326 r326 y326 s326 z326 i326 q326 = (at_ B 53))
(n333 : Str) (p333 : Arguments) (b333 : List Stmt) (d333 : List Expr) (r333 : Option Expr) (y333 : List TypeParam) (s333 : Scope) (z333 : Option Scope) (i333 : Str) (q333 : Pos) (_ : Stmt.FunctionDef n333 p333 b333 d333 r333 y333 s333 z333 i333 q333 = (at_ B 54))
(n340 : Str) (p340 : Arguments) (b340 : List Stmt) (d340 : List Expr) (r340 : Option Expr) (y340 : List TypeParam) (s340 : Scope) (z340 : Option Scope) (i340 : Str) (q340 : Pos) (_ : Stmt.FunctionDef n340 p340 b340 d340 r340 y340 s340 z340 i340 q340 = (at_ B 55))
(n347 : Str) (p347 : Arguments) (b347 : List Stmt) (d347 : List Expr) (r347 : Option Expr) (y347 : List TypeParam) (s347 : Scope) (z347 : Option Scope) (i347 : Str) (q347 : Pos) (_ : Stmt.FunctionDef n347 p347 b347 d347 r347 y347 s347 z347 i347 q347 = (at_ B 56))
(n354 : Str) (p354 : Arguments) (b354 : List Stmt) (d354 : List Expr) (r354 : Option Expr) (y354 : List TypeParam) (s354 : Scope) (z354 : Option Scope) (i354 : Str) (q354 : Pos) (_ : Stmt.FunctionDef n354 p354 b354 d354 r354 y354 s354 z354 i354 q354 = (at_ B 57))
(n369 : Str) (p369 : Arguments) (b369 : List Stmt) (d369 : List Expr) (r369 : Option Expr) (y369 : List TypeParam) (s369 : Scope) (z369 : Option Scope) (i369 : Str) (q369 : Pos) (_ : Stmt.FunctionDef n369 p369 b369 d369 r369 y369 s369 z369 i369 q369 = (at_ (bo (at_ B 59)) 0))
(n383 : Str) (p383 : Arguments) (b383 : List Stmt) (d383 : List Expr) (r383 : Option Expr) (y383 : List TypeParam) (s383 : Scope) (z383 : Option Scope) (i383 : Str) (q383 : Pos) (_ : Stmt.FunctionDef n383 p383 b383 d383 r383 y383 s383 z383 i383 q383 = (at_ B 61))
(n388 : Str) (p388 : Arguments) (b388 : List Stmt) (d388 : List Expr) (r388 : Option Expr) (y388 : List TypeParam) (s388 : Scope) (z388 : Option Scope) (i388 : Str) (q388 : Pos) (_ : Stmt.FunctionDef n388 p388 b388 d388 r388 y388 s388 z388 i388 q388 = (at_ B 62))
(n395 : Str) (p395 : Arguments) (b395 : List Stmt) (d395 : List Expr) (r395 : Option Expr) (y395 : List TypeParam) (s395 : Scope) (z395 : Option Scope) (i395 : Str) (q395 : Pos) (_ : Stmt.FunctionDef n395 p395 b395 d395 r395 y395 s395 z395 i395 q395 = (at_ B 63))
(n400 : Str) (p400 : Arguments) (b400 : List Stmt) (d400 : List Expr) (r400 : Option Expr) (y400 : List TypeParam) (s400 : Scope) (z400 : Option Scope) (i400 : Str) (q400 : Pos) (_ : Stmt.FunctionDef n400 p400 b400 d400 r400 y400 s400 z400 i400 q400 = (at_ B 64))
(n405 : Str) (p405 : Arguments) (b405 : List Stmt) (d405 : List Expr) (r405 : Option Expr) (y405 : List TypeParam) (s405 : Scope) (z405 : Option Scope) (i405 : Str) (q405 : Pos) (_ : Stmt.FunctionDef n405 p405 b405 d405 r405 y405 s405 z405 i405 q405 = (at_ B 65))
(n410 : Str) (p410 : Arguments) (b410 : List Stmt) (d410 : List Expr) (r410 : Option Expr) (y410 : List TypeParam) (s410 : Scope) (z410 : Option Scope) (i410 : Str) (q410 : Pos) (_ : Stmt.FunctionDef n410 p410 b410 d410 r410 y410 s410 z410 i410 q410 = (at_ B 66))
(n415 : Str) (p415 : Arguments) (b415 : List Stmt) (d415 : List Expr) (r415 : Option Expr) (y415 : List TypeParam) (s415 : Scope) (z415 : Option Scope) (i415 : Str) (q415 : Pos) (_ : Stmt.FunctionDef n415 p415 b415 d415 r415 y415 s415 z415 i415 q415 = (at_ B 67))
(n422 : Str) (p422 : Arguments) (b422 : List Stmt) (d422 : List Expr) (r422 : Option Expr) (y422 : List TypeParam) (s422 : Scope) (z422 : Option Scope) (i422 : Str) (q422 : Pos) (_ : Stmt.FunctionDef n422 p422 b422 d422 r422 y422 s422 z422 i422 q422 = (at_ B 68))
(n429 : Str) (p429 : Arguments) (b429 : List Stmt) (d429 : List Expr) (r429 : Option Expr) (y429 : List TypeParam) (s429 : Scope) (z429 : Option Scope) (i429 : Str) (q429 : Pos) (_ : Stmt.FunctionDef n429 p429 b429 d429 r429 y429 s429 z429 i429 q429 = (at_ B 69))
(n434 : Str) (p434 : Arguments) (b434 : List Stmt) (d434 : List Expr) (r434 : Option Expr) (y434 : List TypeParam) (s434 : Scope) (z434 : Option Scope) (i434 : Str) (q434 : Pos) (_ : Stmt.FunctionDef n434 p434 b434 d434 r434 y434 s434 z434 i434 q434 = (at_ B 70))
(n441 : Str) (p441 : Arguments) (b441 : List Stmt) (d441 : List Expr) (r441 : Option Expr) (y441 : List TypeParam) (s441 : Scope) (z441 : Option Scope) (i441 : Str) (q441 : Pos) (_ : Stmt.FunctionDef n441 p441 b441 d441 r441 y441 s441 z441 i441 q441 = (at_ B 71))
=> fun (P : Params) => (nat_lit 2,⟨.none,.none,(.dict #[⟨(keyHash P "type.__subclasses__.Exception.0"),(.str "type.__subclasses__.Exception.0" 223),(.int 34 0)⟩,⟨(keyHash P "type.__subclasses__.Exception.n"),(.str "type.__subclasses__.Exception.n" 224),(.int 1 0)⟩] 2),#[]⟩) ::
(nat_lit 3,⟨(.type "dict"),.none,(.dict (List.toArray (⟨(keyHash P "__name__"),(.str "__name__" 165),(.str "law_pf0012_01" 726)⟩::⟨(keyHash P "__doc__"),(.str "__doc__" 166),.none⟩::⟨(keyHash P "__package__"),(.str "__package__" 167),.none⟩::⟨(keyHash P "__loader__"),(.str "__loader__" 168),(.builtin "__main__.__loader__#opaque")⟩::⟨(keyHash P "__spec__"),(.str "__spec__" 169),.none⟩::⟨(keyHash P "__annotations__"),(.str "__annotations__" 170),(.ref 6)⟩::⟨(keyHash P "__builtins__"),(.str "__builtins__" 171),(.ref 4)⟩::⟨(keyHash P "__file__"),(.str "__file__" 173),(.str "/claim/cut.py" 172)⟩::⟨(keyHash P "__cached__"),(.str "__cached__" 174),.none⟩::⟨(keyHash P "MOST_TEXT"),(.str "MOST_TEXT" 190),(.int 255 189)⟩::⟨(keyHash P "MOST_EXPONENT"),(.str "MOST_EXPONENT" 192),(.int 99 191)⟩::⟨(keyHash P "BasicError"),(.str "BasicError" 226),(.ref 34)⟩::⟨(keyHash P "figures_of"),(.str "figures_of" 235),(.ref 44)⟩::⟨(keyHash P "rounded_by"),(.str "rounded_by" 246),(.ref 51)⟩::⟨(keyHash P "made"),(.str "made" 258),(.ref 58)⟩::⟨(keyHash P "whole_near"),(.str "whole_near" 268),(.ref 65)⟩::⟨(keyHash P "text_of"),(.str "text_of" 275),(.ref 72)⟩::⟨(keyHash P "NOUGHT"),(.str "NOUGHT" 280),(.ref 73)⟩::⟨(keyHash P "MOST_FIGURES"),(.str "MOST_FIGURES" 282),(.int 300 281)⟩::⟨(keyHash P "MOST_POWER"),(.str "MOST_POWER" 284),(.int 9999 283)⟩::⟨(keyHash P "BLANKS_decimals"),(.str "BLANKS_decimals" 286),(.str " \x09" 285)⟩::⟨(keyHash P "figures_text"),(.str "figures_text" 294),(.ref 80)⟩::⟨(keyHash P "exponent_text"),(.str "exponent_text" 302),(.ref 87)⟩::⟨(keyHash P "size_text"),(.str "size_text" 314),(.ref 94)⟩::⟨(keyHash P "d_text"),(.str "d_text" 322),(.ref 101)⟩::⟨(keyHash P "whole_text"),(.str "whole_text" 329),(.ref 108)⟩::⟨(keyHash P "run_of_figures"),(.str "run_of_figures" 339),(.ref 115)⟩::⟨(keyHash P "exponent_at"),(.str "exponent_at" 352),(.ref 122)⟩::⟨(keyHash P "d_of_text"),(.str "d_of_text" 368),(.ref 129)⟩::⟨(keyHash P "told_decimal"),(.str "told_decimal" 378),(.ref 136)⟩::⟨(keyHash P "BLANKS_textfns"),(.str "BLANKS_textfns" 382),(.str " \x09" 381)⟩::⟨(keyHash P "DROPPED"),(.str "DROPPED" 384),(.str "\x0d\x0a\x0c\x1b\x7f\x00" 383)⟩::⟨(keyHash P "size_told"),(.str "size_told" 392),(.ref 143)⟩::⟨(keyHash P "place_told"),(.str "place_told" 400),(.ref 150)⟩::⟨(keyHash P "number_text"),(.str "number_text" 408),(.ref 157)⟩::⟨(keyHash P "found_at"),(.str "found_at" 418),(.ref 164)⟩::⟨(keyHash P "from_left"),(.str "from_left" 427),(.ref 171)⟩::⟨(keyHash P "from_right"),(.str "from_right" 436),(.ref 178)⟩::⟨(keyHash P "great_sign"),(.str "great_sign" 443),(.ref 185)⟩::⟨(keyHash P "small_sign"),(.str "small_sign" 450),(.ref 192)⟩::⟨(keyHash P "in_base"),(.str "in_base" 459),(.ref 199)⟩::⟨(keyHash P "edited_sign"),(.str "edited_sign" 467),(.ref 206)⟩::⟨(keyHash P "edited"),(.str "edited" 481),(.ref 213)⟩::⟨(keyHash P "led_by_table"),(.str "led_by_table" 491),(.ref 220)⟩::⟨(keyHash P "text_asc"),(.str "text_asc" 500),(.ref 227)⟩::⟨(keyHash P "text_val"),(.str "text_val" 509),(.ref 234)⟩::⟨(keyHash P "text_instr"),(.str "text_instr" 518),(.ref 241)⟩::⟨(keyHash P "text_chr"),(.str "text_chr" 526),(.ref 248)⟩::⟨(keyHash P "text_left"),(.str "text_left" 535),(.ref 255)⟩::⟨(keyHash P "text_right"),(.str "text_right" 545),(.ref 262)⟩::⟨(keyHash P "text_mid"),(.str "text_mid" 556),(.ref 269)⟩::⟨(keyHash P "text_seg"),(.str "text_seg" 562),(.ref 274)⟩::⟨(keyHash P "text_str"),(.str "text_str" 570),(.ref 281)⟩::⟨(keyHash P "text_space"),(.str "text_space" 578),(.ref 288)⟩::⟨(keyHash P "text_string"),(.str "text_string" 587),(.ref 295)⟩::⟨(keyHash P "bits_told"),(.str "bits_told" 596),(.ref 302)⟩::⟨(keyHash P "text_hex"),(.str "text_hex" 604),(.ref 309)⟩::⟨(keyHash P "text_oct"),(.str "text_oct" 612),(.ref 316)⟩::⟨(keyHash P "text_ucase"),(.str "text_ucase" 618),(.ref 321)⟩::⟨(keyHash P "text_lcase"),(.str "text_lcase" 624),(.ref 326)⟩::⟨(keyHash P "text_ltrim"),(.str "text_ltrim" 632),(.ref 333)⟩::⟨(keyHash P "text_rtrim"),(.str "text_rtrim" 640),(.ref 340)⟩::⟨(keyHash P "text_edit"),(.str "text_edit" 650),(.ref 347)⟩::⟨(keyHash P "text_xlate"),(.str "text_xlate" 658),(.ref 354)⟩::⟨(keyHash P "World"),(.str "World" 725),(.ref 372)⟩::⟨(keyHash P "_law_draw"),(.str "_law_draw" 736),(.ref 383)⟩::⟨(keyHash P "_law_signs"),(.str "_law_signs" 742),(.ref 388)⟩::⟨(keyHash P "_law_heard"),(.str "_law_heard" 751),(.ref 395)⟩::⟨(keyHash P "_law_kept"),(.str "_law_kept" 757),(.ref 400)⟩::⟨(keyHash P "_law_cuts_right"),(.str "_law_cuts_right" 763),(.ref 405)⟩::⟨(keyHash P "_law_places_right"),(.str "_law_places_right" 769),(.ref 410)⟩::⟨(keyHash P "_law_letters_right"),(.str "_law_letters_right" 775),(.ref 415)⟩::⟨(keyHash P "_law_codes_right"),(.str "_law_codes_right" 792),(.ref 422)⟩::⟨(keyHash P "_law_edited"),(.str "_law_edited" 803),(.ref 429)⟩::⟨(keyHash P "_law_edits_right"),(.str "_law_edits_right" 809),(.ref 434)⟩::⟨(keyHash P "law"),(.str "law" 818),(.ref 441)⟩::[])) 76),#[]⟩) ::
(nat_lit 15,⟨(.type "tuple"),.none,(.seq #[(.type "Exception")] 0),#[]⟩) ::
(nat_lit 18,⟨(.type "cell"),.none,(.cell (.some (.ref 34))),#[]⟩) ::
(nat_lit 23,⟨(.type "tuple"),.none,(.seq #[(.str "" 205)] 0),#[]⟩) ::
(nat_lit 24,⟨(.type "tuple"),.none,(.seq #[(.ref 18)] 0),#[]⟩) ::
(nat_lit 25,⟨(.type "tuple"),.none,(.seq #[(.str "__class__" 209)] 0),#[]⟩) ::
(nat_lit 27,⟨(.type "tuple"),.none,(.seq #[(.str "self" 210),(.str "code" 211),(.str "told" 212)] 0),#[]⟩) ::
(nat_lit 28,⟨(.type "tuple"),.none,(.seq #[] 0),#[]⟩) ::
(nat_lit 30,⟨(.type "code"),.none,(.fields #[(.str "__init__" 206),(.str "BasicError.__init__" 207),(.str "/claim/cut.py" 208),(.int 6 0),(.int 3 0),(.int 0 0),(.int 0 0),(.int 3 0),(.ref 25),(.bool .true),(.int 181 0),(.ref 26),.none,(.ref 27),(.ref 28),(.ref 29),(.int 213 0),(.int 6 0),(.str "/claim/cut.py" 214)]),#[]⟩) ::
(nat_lit 31,⟨(.type "function"),.none,(.func ⟨"__init__","BasicError.__init__",p31,(.stmts b31),s31,3,[("__class__",18)],(.ref 23),.none,.none,(.str "basicplus.values" 187),.none,(.ref 30),(.ref 24),0⟩),#[]⟩) ::
(nat_lit 32,⟨(.type "tuple"),.none,(.seq #[(.str "code" 216),(.str "told" 217)] 0),#[]⟩) ::
(nat_lit 33,⟨(.type "dict"),.none,(.dict #[⟨(keyHash P "__module__"),(.str "__module__" 200),(.str "basicplus.values" 187)⟩,⟨(keyHash P "__firstlineno__"),(.str "__firstlineno__" 204),(.int 4 203)⟩,⟨(keyHash P "__init__"),(.str "__init__" 215),(.ref 31)⟩,⟨(keyHash P "__static_attributes__"),(.str "__static_attributes__" 218),(.ref 32)⟩,⟨(keyHash P "__weakref__"),(.str "__weakref__" 221),(.ref 35)⟩,⟨(keyHash P "__doc__"),(.str "__doc__" 222),.none⟩] 4),#[]⟩) ::
(nat_lit 34,⟨(.type "type"),.none,(.cls ⟨"BasicError",[(.type "Exception")],[(.ref 34),(.type "Exception"),(.type "BaseException"),(.type "object")],33,"BasicError",.true,[],[],.false,.none,.false⟩),#[(.some (.ref 15)),.none,(.some (.str "BasicError" 193)),(.some (.str "BasicError" 201)),(.some (.builtin "Exception.__new__")),(.some (.bool .true))]⟩) ::
(nat_lit 35,⟨(.type "getset_descriptor"),.none,(.fields #[(.str "__weakref__" 220),(.ref 34),(.builtin "ExceptionGroup.__weakref__"),.none]),#[]⟩) ::
(nat_lit 38,⟨(.type "tuple"),.none,(.seq #[] 0),#[]⟩) ::
(nat_lit 40,⟨(.type "tuple"),.none,(.seq #[(.str "number" 230),(.str "many" 231),(.str "bound" 232)] 0),#[]⟩) ::
(nat_lit 41,⟨(.type "tuple"),.none,(.seq #[] 0),#[]⟩) ::
(nat_lit 43,⟨(.type "code"),.none,(.fields #[(.str "figures_of" 227),(.str "figures_of" 228),(.str "/claim/cut.py" 229),(.int 10 0),(.int 1 0),(.int 0 0),(.int 0 0),(.int 3 0),(.ref 38),(.bool .true),(.int 181 0),(.ref 39),.none,(.ref 40),(.ref 41),(.ref 42),(.int 233 0),(.int 10 0),(.str "/claim/cut.py" 234)]),#[]⟩) ::
(nat_lit 44,⟨(.type "function"),.none,(.func ⟨"figures_of","figures_of",p44,(.stmts b44),s44,3,[],.none,.none,.none,(.str "basicplus.values" 187),.none,(.ref 43),.none,0⟩),#[]⟩) ::
(nat_lit 45,⟨(.type "tuple"),.none,(.seq #[] 0),#[]⟩) ::
(nat_lit 47,⟨(.type "tuple"),.none,(.seq #[(.str "number" 239),(.str "places" 240),(.str "unit" 241),(.str "found" 242),(.str "rest" 243)] 0),#[]⟩) ::
(nat_lit 48,⟨(.type "tuple"),.none,(.seq #[] 0),#[]⟩) ::
(nat_lit 50,⟨(.type "code"),.none,(.fields #[(.str "rounded_by" 236),(.str "rounded_by" 237),(.str "/claim/cut.py" 238),(.int 16 0),(.int 2 0),(.int 0 0),(.int 0 0),(.int 3 0),(.ref 45),(.bool .true),(.int 181 0),(.ref 46),.none,(.ref 47),(.ref 48),(.ref 49),(.int 244 0),(.int 16 0),(.str "/claim/cut.py" 245)]),#[]⟩) ::
(nat_lit 51,⟨(.type "function"),.none,(.func ⟨"rounded_by","rounded_by",p51,(.stmts b51),s51,3,[],.none,.none,.none,(.str "basicplus.values" 187),.none,(.ref 50),.none,0⟩),#[]⟩) ::
(nat_lit 52,⟨(.type "tuple"),.none,(.seq #[] 0),#[]⟩) ::
(nat_lit 54,⟨(.type "tuple"),.none,(.seq #[(.str "coefficient" 250),(.str "exponent" 251),(.str "digits" 252),(.str "size" 253),(.str "more" 254),(.str "first" 255)] 0),#[]⟩) ::
(nat_lit 55,⟨(.type "tuple"),.none,(.seq #[] 0),#[]⟩) ::
(nat_lit 57,⟨(.type "code"),.none,(.fields #[(.str "made" 247),(.str "made" 248),(.str "/claim/cut.py" 249),(.int 26 0),(.int 3 0),(.int 0 0),(.int 0 0),(.int 3 0),(.ref 52),(.bool .true),(.int 181 0),(.ref 53),.none,(.ref 54),(.ref 55),(.ref 56),(.int 256 0),(.int 26 0),(.str "/claim/cut.py" 257)]),#[]⟩) ::
(nat_lit 58,⟨(.type "function"),.none,(.func ⟨"made","made",p58,(.stmts b58),s58,3,[],.none,.none,.none,(.str "basicplus.values" 187),.none,(.ref 57),.none,0⟩),#[]⟩) ::
(nat_lit 59,⟨(.type "tuple"),.none,(.seq #[] 0),#[]⟩) ::
(nat_lit 61,⟨(.type "tuple"),.none,(.seq #[(.str "value" 262),(.str "coefficient" 263),(.str "exponent" 264),(.str "size" 265)] 0),#[]⟩) ::
(nat_lit 62,⟨(.type "tuple"),.none,(.seq #[] 0),#[]⟩) ::
(nat_lit 64,⟨(.type "code"),.none,(.fields #[(.str "whole_near" 259),(.str "whole_near" 260),(.str "/claim/cut.py" 261),(.int 41 0),(.int 1 0),(.int 0 0),(.int 0 0),(.int 3 0),(.ref 59),(.bool .true),(.int 181 0),(.ref 60),.none,(.ref 61),(.ref 62),(.ref 63),(.int 266 0),(.int 41 0),(.str "/claim/cut.py" 267)]),#[]⟩) ::
(nat_lit 65,⟨(.type "function"),.none,(.func ⟨"whole_near","whole_near",p65,(.stmts b65),s65,3,[],.none,.none,.none,(.str "basicplus.values" 187),.none,(.ref 64),.none,0⟩),#[]⟩) ::
(nat_lit 66,⟨(.type "tuple"),.none,(.seq #[] 0),#[]⟩) ::
(nat_lit 68,⟨(.type "tuple"),.none,(.seq #[(.str "value" 272)] 0),#[]⟩) ::
(nat_lit 69,⟨(.type "tuple"),.none,(.seq #[] 0),#[]⟩) ::
(nat_lit 71,⟨(.type "code"),.none,(.fields #[(.str "text_of" 269),(.str "text_of" 270),(.str "/claim/cut.py" 271),(.int 47 0),(.int 1 0),(.int 0 0),(.int 0 0),(.int 3 0),(.ref 66),(.bool .true),(.int 181 0),(.ref 67),.none,(.ref 68),(.ref 69),(.ref 70),(.int 273 0),(.int 47 0),(.str "/claim/cut.py" 274)]),#[]⟩) ::
(nat_lit 72,⟨(.type "function"),.none,(.func ⟨"text_of","text_of",p72,(.stmts b72),s72,3,[],.none,.none,.none,(.str "basicplus.values" 187),.none,(.ref 71),.none,0⟩),#[]⟩) ::
(nat_lit 73,⟨(.type "tuple"),.none,(.seq #[(.int 0 278),(.int 0 279)] 0),#[]⟩) ::
(nat_lit 74,⟨(.type "tuple"),.none,(.seq #[] 0),#[]⟩) ::
(nat_lit 76,⟨(.type "tuple"),.none,(.seq #[(.str "number" 290),(.str "found" 291)] 0),#[]⟩) ::
(nat_lit 77,⟨(.type "tuple"),.none,(.seq #[] 0),#[]⟩) ::
(nat_lit 79,⟨(.type "code"),.none,(.fields #[(.str "figures_text" 287),(.str "figures_text" 288),(.str "/claim/cut.py" 289),(.int 56 0),(.int 1 0),(.int 0 0),(.int 0 0),(.int 3 0),(.ref 74),(.bool .true),(.int 181 0),(.ref 75),.none,(.ref 76),(.ref 77),(.ref 78),(.int 292 0),(.int 56 0),(.str "/claim/cut.py" 293)]),#[]⟩) ::
(nat_lit 80,⟨(.type "function"),.none,(.func ⟨"figures_text","figures_text",p80,(.stmts b80),s80,3,[],.none,.none,.none,(.str "basicplus.decimals" 276),.none,(.ref 79),.none,0⟩),#[]⟩) ::
(nat_lit 81,⟨(.type "tuple"),.none,(.seq #[] 0),#[]⟩) ::
(nat_lit 83,⟨(.type "tuple"),.none,(.seq #[(.str "exponent" 298),(.str "told" 299)] 0),#[]⟩) ::
(nat_lit 84,⟨(.type "tuple"),.none,(.seq #[] 0),#[]⟩) ::
(nat_lit 86,⟨(.type "code"),.none,(.fields #[(.str "exponent_text" 295),(.str "exponent_text" 296),(.str "/claim/cut.py" 297),(.int 62 0),(.int 1 0),(.int 0 0),(.int 0 0),(.int 3 0),(.ref 81),(.bool .true),(.int 181 0),(.ref 82),.none,(.ref 83),(.ref 84),(.ref 85),(.int 300 0),(.int 62 0),(.str "/claim/cut.py" 301)]),#[]⟩) ::
(nat_lit 87,⟨(.type "function"),.none,(.func ⟨"exponent_text","exponent_text",p87,(.stmts b87),s87,3,[],.none,.none,.none,(.str "basicplus.decimals" 276),.none,(.ref 86),.none,0⟩),#[]⟩) ::
(nat_lit 88,⟨(.type "tuple"),.none,(.seq #[] 0),#[]⟩) ::
(nat_lit 90,⟨(.type "tuple"),.none,(.seq #[(.str "size" 306),(.str "exponent" 307),(.str "digits" 308),(.str "figures" 309),(.str "many" 310),(.str "top" 311)] 0),#[]⟩) ::
(nat_lit 91,⟨(.type "tuple"),.none,(.seq #[] 0),#[]⟩) ::
(nat_lit 93,⟨(.type "code"),.none,(.fields #[(.str "size_text" 303),(.str "size_text" 304),(.str "/claim/cut.py" 305),(.int 65 0),(.int 3 0),(.int 0 0),(.int 0 0),(.int 3 0),(.ref 88),(.bool .true),(.int 181 0),(.ref 89),.none,(.ref 90),(.ref 91),(.ref 92),(.int 312 0),(.int 65 0),(.str "/claim/cut.py" 313)]),#[]⟩) ::
(nat_lit 94,⟨(.type "function"),.none,(.func ⟨"size_text","size_text",p94,(.stmts b94),s94,3,[],.none,.none,.none,(.str "basicplus.decimals" 276),.none,(.ref 93),.none,0⟩),#[]⟩) ::
(nat_lit 95,⟨(.type "tuple"),.none,(.seq #[] 0),#[]⟩) ::
(nat_lit 97,⟨(.type "tuple"),.none,(.seq #[(.str "a" 318),(.str "digits" 319)] 0),#[]⟩) ::
(nat_lit 98,⟨(.type "tuple"),.none,(.seq #[] 0),#[]⟩) ::
(nat_lit 100,⟨(.type "code"),.none,(.fields #[(.str "d_text" 315),(.str "d_text" 316),(.str "/claim/cut.py" 317),(.int 76 0),(.int 2 0),(.int 0 0),(.int 0 0),(.int 3 0),(.ref 95),(.bool .true),(.int 181 0),(.ref 96),.none,(.ref 97),(.ref 98),(.ref 99),(.int 320 0),(.int 76 0),(.str "/claim/cut.py" 321)]),#[]⟩) ::
(nat_lit 101,⟨(.type "function"),.none,(.func ⟨"d_text","d_text",p101,(.stmts b101),s101,3,[],.none,.none,.none,(.str "basicplus.decimals" 276),.none,(.ref 100),.none,0⟩),#[]⟩) ::
(nat_lit 102,⟨(.type "tuple"),.none,(.seq #[] 0),#[]⟩) ::
(nat_lit 104,⟨(.type "tuple"),.none,(.seq #[(.str "number" 326)] 0),#[]⟩) ::
(nat_lit 105,⟨(.type "tuple"),.none,(.seq #[] 0),#[]⟩) ::
(nat_lit 107,⟨(.type "code"),.none,(.fields #[(.str "whole_text" 323),(.str "whole_text" 324),(.str "/claim/cut.py" 325),(.int 80 0),(.int 1 0),(.int 0 0),(.int 0 0),(.int 3 0),(.ref 102),(.bool .true),(.int 181 0),(.ref 103),.none,(.ref 104),(.ref 105),(.ref 106),(.int 327 0),(.int 80 0),(.str "/claim/cut.py" 328)]),#[]⟩) ::
(nat_lit 108,⟨(.type "function"),.none,(.func ⟨"whole_text","whole_text",p108,(.stmts b108),s108,3,[],.none,.none,.none,(.str "basicplus.decimals" 276),.none,(.ref 107),.none,0⟩),#[]⟩) ::
(nat_lit 109,⟨(.type "tuple"),.none,(.seq #[] 0),#[]⟩) ::
(nat_lit 111,⟨(.type "tuple"),.none,(.seq #[(.str "text" 333),(.str "at" 334),(.str "found" 335),(.str "begin" 336)] 0),#[]⟩) ::
(nat_lit 112,⟨(.type "tuple"),.none,(.seq #[] 0),#[]⟩) ::
(nat_lit 114,⟨(.type "code"),.none,(.fields #[(.str "run_of_figures" 330),(.str "run_of_figures" 331),(.str "/claim/cut.py" 332),(.int 82 0),(.int 2 0),(.int 0 0),(.int 0 0),(.int 3 0),(.ref 109),(.bool .true),(.int 181 0),(.ref 110),.none,(.ref 111),(.ref 112),(.ref 113),(.int 337 0),(.int 82 0),(.str "/claim/cut.py" 338)]),#[]⟩) ::
(nat_lit 115,⟨(.type "function"),.none,(.func ⟨"run_of_figures","run_of_figures",p115,(.stmts b115),s115,3,[],.none,.none,.none,(.str "basicplus.decimals" 276),.none,(.ref 114),.none,0⟩),#[]⟩) ::
(nat_lit 116,⟨(.type "tuple"),.none,(.seq #[] 0),#[]⟩) ::
(nat_lit 118,⟨(.type "tuple"),.none,(.seq #[(.str "text" 343),(.str "at" 344),(.str "begin" 345),(.str "sign" 346),(.str "found" 347),(.str "many" 348),(.str "end" 349)] 0),#[]⟩) ::
(nat_lit 119,⟨(.type "tuple"),.none,(.seq #[] 0),#[]⟩) ::
(nat_lit 121,⟨(.type "code"),.none,(.fields #[(.str "exponent_at" 340),(.str "exponent_at" 341),(.str "/claim/cut.py" 342),(.int 88 0),(.int 2 0),(.int 0 0),(.int 0 0),(.int 3 0),(.ref 116),(.bool .true),(.int 181 0),(.ref 117),.none,(.ref 118),(.ref 119),(.ref 120),(.int 350 0),(.int 88 0),(.str "/claim/cut.py" 351)]),#[]⟩) ::
(nat_lit 122,⟨(.type "function"),.none,(.func ⟨"exponent_at","exponent_at",p122,(.stmts b122),s122,3,[],.none,.none,.none,(.str "basicplus.decimals" 276),.none,(.ref 121),.none,0⟩),#[]⟩) ::
(nat_lit 123,⟨(.type "tuple"),.none,(.seq #[] 0),#[]⟩) ::
(nat_lit 125,⟨(.type "tuple"),.none,(.seq #[(.str "text" 356),(.str "digits" 357),(.str "at" 358),(.str "is_below" 359),(.str "found" 360),(.str "ahead" 361),(.str "behind" 362),(.str "more" 363),(.str "end" 364),(.str "exponent" 365)] 0),#[]⟩) ::
(nat_lit 126,⟨(.type "tuple"),.none,(.seq #[] 0),#[]⟩) ::
(nat_lit 128,⟨(.type "code"),.none,(.fields #[(.str "d_of_text" 353),(.str "d_of_text" 354),(.str "/claim/cut.py" 355),(.int 99 0),(.int 2 0),(.int 0 0),(.int 0 0),(.int 3 0),(.ref 123),(.bool .true),(.int 181 0),(.ref 124),.none,(.ref 125),(.ref 126),(.ref 127),(.int 366 0),(.int 99 0),(.str "/claim/cut.py" 367)]),#[]⟩) ::
(nat_lit 129,⟨(.type "function"),.none,(.func ⟨"d_of_text","d_of_text",p129,(.stmts b129),s129,3,[],.none,.none,.none,(.str "basicplus.decimals" 276),.none,(.ref 128),.none,0⟩),#[]⟩) ::
(nat_lit 130,⟨(.type "tuple"),.none,(.seq #[] 0),#[]⟩) ::
(nat_lit 132,⟨(.type "tuple"),.none,(.seq #[(.str "coefficient" 372),(.str "exponent" 373),(.str "digits" 374),(.str "top" 375)] 0),#[]⟩) ::
(nat_lit 133,⟨(.type "tuple"),.none,(.seq #[] 0),#[]⟩) ::
(nat_lit 135,⟨(.type "code"),.none,(.fields #[(.str "told_decimal" 369),(.str "told_decimal" 370),(.str "/claim/cut.py" 371),(.int 115 0),(.int 3 0),(.int 0 0),(.int 0 0),(.int 3 0),(.ref 130),(.bool .true),(.int 181 0),(.ref 131),.none,(.ref 132),(.ref 133),(.ref 134),(.int 376 0),(.int 115 0),(.str "/claim/cut.py" 377)]),#[]⟩) ::
(nat_lit 136,⟨(.type "function"),.none,(.func ⟨"told_decimal","told_decimal",p136,(.stmts b136),s136,3,[],.none,.none,.none,(.str "basicplus.decimals" 276),.none,(.ref 135),.none,0⟩),#[]⟩) ::
(nat_lit 137,⟨(.type "tuple"),.none,(.seq #[] 0),#[]⟩) ::
(nat_lit 139,⟨(.type "tuple"),.none,(.seq #[(.str "value" 388),(.str "number" 389)] 0),#[]⟩) ::
(nat_lit 140,⟨(.type "tuple"),.none,(.seq #[] 0),#[]⟩) ::
(nat_lit 142,⟨(.type "code"),.none,(.fields #[(.str "size_told" 385),(.str "size_told" 386),(.str "/claim/cut.py" 387),(.int 125 0),(.int 1 0),(.int 0 0),(.int 0 0),(.int 3 0),(.ref 137),(.bool .true),(.int 181 0),(.ref 138),.none,(.ref 139),(.ref 140),(.ref 141),(.int 390 0),(.int 125 0),(.str "/claim/cut.py" 391)]),#[]⟩) ::
(nat_lit 143,⟨(.type "function"),.none,(.func ⟨"size_told","size_told",p143,(.stmts b143),s143,3,[],.none,.none,.none,(.str "basicplus.textfns" 379),.none,(.ref 142),.none,0⟩),#[]⟩) ::
(nat_lit 144,⟨(.type "tuple"),.none,(.seq #[] 0),#[]⟩) ::
(nat_lit 146,⟨(.type "tuple"),.none,(.seq #[(.str "value" 396),(.str "number" 397)] 0),#[]⟩) ::
(nat_lit 147,⟨(.type "tuple"),.none,(.seq #[] 0),#[]⟩) ::
(nat_lit 149,⟨(.type "code"),.none,(.fields #[(.str "place_told" 393),(.str "place_told" 394),(.str "/claim/cut.py" 395),(.int 132 0),(.int 1 0),(.int 0 0),(.int 0 0),(.int 3 0),(.ref 144),(.bool .true),(.int 181 0),(.ref 145),.none,(.ref 146),(.ref 147),(.ref 148),(.int 398 0),(.int 132 0),(.str "/claim/cut.py" 399)]),#[]⟩) ::
(nat_lit 150,⟨(.type "function"),.none,(.func ⟨"place_told","place_told",p150,(.stmts b150),s150,3,[],.none,.none,.none,(.str "basicplus.textfns" 379),.none,(.ref 149),.none,0⟩),#[]⟩) ::
(nat_lit 151,⟨(.type "tuple"),.none,(.seq #[] 0),#[]⟩) ::
(nat_lit 153,⟨(.type "tuple"),.none,(.seq #[(.str "value" 404),(.str "digits" 405)] 0),#[]⟩) ::
(nat_lit 154,⟨(.type "tuple"),.none,(.seq #[] 0),#[]⟩) ::
(nat_lit 156,⟨(.type "code"),.none,(.fields #[(.str "number_text" 401),(.str "number_text" 402),(.str "/claim/cut.py" 403),(.int 137 0),(.int 2 0),(.int 0 0),(.int 0 0),(.int 3 0),(.ref 151),(.bool .true),(.int 181 0),(.ref 152),.none,(.ref 153),(.ref 154),(.ref 155),(.int 406 0),(.int 137 0),(.str "/claim/cut.py" 407)]),#[]⟩) ::
(nat_lit 157,⟨(.type "function"),.none,(.func ⟨"number_text","number_text",p157,(.stmts b157),s157,3,[],.none,.none,.none,(.str "basicplus.textfns" 379),.none,(.ref 156),.none,0⟩),#[]⟩) ::
(nat_lit 158,⟨(.type "tuple"),.none,(.seq #[] 0),#[]⟩) ::
(nat_lit 160,⟨(.type "tuple"),.none,(.seq #[(.str "text" 412),(.str "part" 413),(.str "begin" 414),(.str "at" 415)] 0),#[]⟩) ::
(nat_lit 161,⟨(.type "tuple"),.none,(.seq #[] 0),#[]⟩) ::
(nat_lit 163,⟨(.type "code"),.none,(.fields #[(.str "found_at" 409),(.str "found_at" 410),(.str "/claim/cut.py" 411),(.int 139 0),(.int 3 0),(.int 0 0),(.int 0 0),(.int 3 0),(.ref 158),(.bool .true),(.int 181 0),(.ref 159),.none,(.ref 160),(.ref 161),(.ref 162),(.int 416 0),(.int 139 0),(.str "/claim/cut.py" 417)]),#[]⟩) ::
(nat_lit 164,⟨(.type "function"),.none,(.func ⟨"found_at","found_at",p164,(.stmts b164),s164,3,[],.none,.none,.none,(.str "basicplus.textfns" 379),.none,(.ref 163),.none,0⟩),#[]⟩) ::
(nat_lit 165,⟨(.type "tuple"),.none,(.seq #[] 0),#[]⟩) ::
(nat_lit 167,⟨(.type "tuple"),.none,(.seq #[(.str "text" 422),(.str "signs" 423),(.str "at" 424)] 0),#[]⟩) ::
(nat_lit 168,⟨(.type "tuple"),.none,(.seq #[] 0),#[]⟩) ::
(nat_lit 170,⟨(.type "code"),.none,(.fields #[(.str "from_left" 419),(.str "from_left" 420),(.str "/claim/cut.py" 421),(.int 146 0),(.int 2 0),(.int 0 0),(.int 0 0),(.int 3 0),(.ref 165),(.bool .true),(.int 181 0),(.ref 166),.none,(.ref 167),(.ref 168),(.ref 169),(.int 425 0),(.int 146 0),(.str "/claim/cut.py" 426)]),#[]⟩) ::
(nat_lit 171,⟨(.type "function"),.none,(.func ⟨"from_left","from_left",p171,(.stmts b171),s171,3,[],.none,.none,.none,(.str "basicplus.textfns" 379),.none,(.ref 170),.none,0⟩),#[]⟩) ::
(nat_lit 172,⟨(.type "tuple"),.none,(.seq #[] 0),#[]⟩) ::
(nat_lit 174,⟨(.type "tuple"),.none,(.seq #[(.str "text" 431),(.str "signs" 432),(.str "end" 433)] 0),#[]⟩) ::
(nat_lit 175,⟨(.type "tuple"),.none,(.seq #[] 0),#[]⟩) ::
(nat_lit 177,⟨(.type "code"),.none,(.fields #[(.str "from_right" 428),(.str "from_right" 429),(.str "/claim/cut.py" 430),(.int 151 0),(.int 2 0),(.int 0 0),(.int 0 0),(.int 3 0),(.ref 172),(.bool .true),(.int 181 0),(.ref 173),.none,(.ref 174),(.ref 175),(.ref 176),(.int 434 0),(.int 151 0),(.str "/claim/cut.py" 435)]),#[]⟩) ::
(nat_lit 178,⟨(.type "function"),.none,(.func ⟨"from_right","from_right",p178,(.stmts b178),s178,3,[],.none,.none,.none,(.str "basicplus.textfns" 379),.none,(.ref 177),.none,0⟩),#[]⟩) ::
(nat_lit 179,⟨(.type "tuple"),.none,(.seq #[] 0),#[]⟩) ::
(nat_lit 181,⟨(.type "tuple"),.none,(.seq #[(.str "sign" 440)] 0),#[]⟩) ::
(nat_lit 182,⟨(.type "tuple"),.none,(.seq #[] 0),#[]⟩) ::
(nat_lit 184,⟨(.type "code"),.none,(.fields #[(.str "great_sign" 437),(.str "great_sign" 438),(.str "/claim/cut.py" 439),(.int 156 0),(.int 1 0),(.int 0 0),(.int 0 0),(.int 3 0),(.ref 179),(.bool .true),(.int 181 0),(.ref 180),.none,(.ref 181),(.ref 182),(.ref 183),(.int 441 0),(.int 156 0),(.str "/claim/cut.py" 442)]),#[]⟩) ::
(nat_lit 185,⟨(.type "function"),.none,(.func ⟨"great_sign","great_sign",p185,(.stmts b185),s185,3,[],.none,.none,.none,(.str "basicplus.textfns" 379),.none,(.ref 184),.none,0⟩),#[]⟩) ::
(nat_lit 186,⟨(.type "tuple"),.none,(.seq #[] 0),#[]⟩) ::
(nat_lit 188,⟨(.type "tuple"),.none,(.seq #[(.str "sign" 447)] 0),#[]⟩) ::
(nat_lit 189,⟨(.type "tuple"),.none,(.seq #[] 0),#[]⟩) ::
(nat_lit 191,⟨(.type "code"),.none,(.fields #[(.str "small_sign" 444),(.str "small_sign" 445),(.str "/claim/cut.py" 446),(.int 158 0),(.int 1 0),(.int 0 0),(.int 0 0),(.int 3 0),(.ref 186),(.bool .true),(.int 181 0),(.ref 187),.none,(.ref 188),(.ref 189),(.ref 190),(.int 448 0),(.int 158 0),(.str "/claim/cut.py" 449)]),#[]⟩) ::
(nat_lit 192,⟨(.type "function"),.none,(.func ⟨"small_sign","small_sign",p192,(.stmts b192),s192,3,[],.none,.none,.none,(.str "basicplus.textfns" 379),.none,(.ref 191),.none,0⟩),#[]⟩) ::
(nat_lit 193,⟨(.type "tuple"),.none,(.seq #[] 0),#[]⟩) ::
(nat_lit 195,⟨(.type "tuple"),.none,(.seq #[(.str "number" 454),(.str "base" 455),(.str "found" 456)] 0),#[]⟩) ::
(nat_lit 196,⟨(.type "tuple"),.none,(.seq #[] 0),#[]⟩) ::
(nat_lit 198,⟨(.type "code"),.none,(.fields #[(.str "in_base" 451),(.str "in_base" 452),(.str "/claim/cut.py" 453),(.int 160 0),(.int 2 0),(.int 0 0),(.int 0 0),(.int 3 0),(.ref 193),(.bool .true),(.int 181 0),(.ref 194),.none,(.ref 195),(.ref 196),(.ref 197),(.int 457 0),(.int 160 0),(.str "/claim/cut.py" 458)]),#[]⟩) ::
(nat_lit 199,⟨(.type "function"),.none,(.func ⟨"in_base","in_base",p199,(.stmts b199),s199,3,[],.none,.none,.none,(.str "basicplus.textfns" 379),.none,(.ref 198),.none,0⟩),#[]⟩) ::
(nat_lit 200,⟨(.type "tuple"),.none,(.seq #[] 0),#[]⟩) ::
(nat_lit 202,⟨(.type "tuple"),.none,(.seq #[(.str "sign" 463),(.str "flags" 464)] 0),#[]⟩) ::
(nat_lit 203,⟨(.type "tuple"),.none,(.seq #[] 0),#[]⟩) ::
(nat_lit 205,⟨(.type "code"),.none,(.fields #[(.str "edited_sign" 460),(.str "edited_sign" 461),(.str "/claim/cut.py" 462),(.int 165 0),(.int 2 0),(.int 0 0),(.int 0 0),(.int 3 0),(.ref 200),(.bool .true),(.int 181 0),(.ref 201),.none,(.ref 202),(.ref 203),(.ref 204),(.int 465 0),(.int 165 0),(.str "/claim/cut.py" 466)]),#[]⟩) ::
(nat_lit 206,⟨(.type "function"),.none,(.func ⟨"edited_sign","edited_sign",p206,(.stmts b206),s206,3,[],.none,.none,.none,(.str "basicplus.textfns" 379),.none,(.ref 205),.none,0⟩),#[]⟩) ::
(nat_lit 207,⟨(.type "tuple"),.none,(.seq #[] 0),#[]⟩) ::
(nat_lit 209,⟨(.type "tuple"),.none,(.seq #[(.str "text" 471),(.str "flags" 472),(.str "found" 473),(.str "kept" 474),(.str "quote" 475),(.str "sign" 476),(.str "told" 477),(.str "behind" 478)] 0),#[]⟩) ::
(nat_lit 210,⟨(.type "tuple"),.none,(.seq #[] 0),#[]⟩) ::
(nat_lit 212,⟨(.type "code"),.none,(.fields #[(.str "edited" 468),(.str "edited" 469),(.str "/claim/cut.py" 470),(.int 173 0),(.int 2 0),(.int 0 0),(.int 0 0),(.int 3 0),(.ref 207),(.bool .true),(.int 181 0),(.ref 208),.none,(.ref 209),(.ref 210),(.ref 211),(.int 479 0),(.int 173 0),(.str "/claim/cut.py" 480)]),#[]⟩) ::
(nat_lit 213,⟨(.type "function"),.none,(.func ⟨"edited","edited",p213,(.stmts b213),s213,3,[],.none,.none,.none,(.str "basicplus.textfns" 379),.none,(.ref 212),.none,0⟩),#[]⟩) ::
(nat_lit 214,⟨(.type "tuple"),.none,(.seq #[] 0),#[]⟩) ::
(nat_lit 216,⟨(.type "tuple"),.none,(.seq #[(.str "text" 485),(.str "table" 486),(.str "found" 487),(.str "sign" 488)] 0),#[]⟩) ::
(nat_lit 217,⟨(.type "tuple"),.none,(.seq #[] 0),#[]⟩) ::
(nat_lit 219,⟨(.type "code"),.none,(.fields #[(.str "led_by_table" 482),(.str "led_by_table" 483),(.str "/claim/cut.py" 484),(.int 193 0),(.int 2 0),(.int 0 0),(.int 0 0),(.int 3 0),(.ref 214),(.bool .true),(.int 181 0),(.ref 215),.none,(.ref 216),(.ref 217),(.ref 218),(.int 489 0),(.int 193 0),(.str "/claim/cut.py" 490)]),#[]⟩) ::
(nat_lit 220,⟨(.type "function"),.none,(.func ⟨"led_by_table","led_by_table",p220,(.stmts b220),s220,3,[],.none,.none,.none,(.str "basicplus.textfns" 379),.none,(.ref 219),.none,0⟩),#[]⟩) ::
(nat_lit 221,⟨(.type "tuple"),.none,(.seq #[] 0),#[]⟩) ::
(nat_lit 223,⟨(.type "tuple"),.none,(.seq #[(.str "world" 495),(.str "args" 496),(.str "text" 497)] 0),#[]⟩) ::
(nat_lit 224,⟨(.type "tuple"),.none,(.seq #[] 0),#[]⟩) ::
(nat_lit 226,⟨(.type "code"),.none,(.fields #[(.str "text_asc" 492),(.str "text_asc" 493),(.str "/claim/cut.py" 494),(.int 199 0),(.int 2 0),(.int 0 0),(.int 0 0),(.int 3 0),(.ref 221),(.bool .true),(.int 181 0),(.ref 222),.none,(.ref 223),(.ref 224),(.ref 225),(.int 498 0),(.int 199 0),(.str "/claim/cut.py" 499)]),#[]⟩) ::
(nat_lit 227,⟨(.type "function"),.none,(.func ⟨"text_asc","text_asc",p227,(.stmts b227),s227,3,[],.none,.none,.none,(.str "basicplus.textfns" 379),.none,(.ref 226),.none,0⟩),#[]⟩) ::
(nat_lit 228,⟨(.type "tuple"),.none,(.seq #[] 0),#[]⟩) ::
(nat_lit 230,⟨(.type "tuple"),.none,(.seq #[(.str "world" 504),(.str "args" 505),(.str "found" 506)] 0),#[]⟩) ::
(nat_lit 231,⟨(.type "tuple"),.none,(.seq #[] 0),#[]⟩) ::
(nat_lit 233,⟨(.type "code"),.none,(.fields #[(.str "text_val" 501),(.str "text_val" 502),(.str "/claim/cut.py" 503),(.int 204 0),(.int 2 0),(.int 0 0),(.int 0 0),(.int 3 0),(.ref 228),(.bool .true),(.int 181 0),(.ref 229),.none,(.ref 230),(.ref 231),(.ref 232),(.int 507 0),(.int 204 0),(.str "/claim/cut.py" 508)]),#[]⟩) ::
(nat_lit 234,⟨(.type "function"),.none,(.func ⟨"text_val","text_val",p234,(.stmts b234),s234,3,[],.none,.none,.none,(.str "basicplus.textfns" 379),.none,(.ref 233),.none,0⟩),#[]⟩) ::
(nat_lit 235,⟨(.type "tuple"),.none,(.seq #[] 0),#[]⟩) ::
(nat_lit 237,⟨(.type "tuple"),.none,(.seq #[(.str "world" 513),(.str "args" 514),(.str "begin" 515)] 0),#[]⟩) ::
(nat_lit 238,⟨(.type "tuple"),.none,(.seq #[] 0),#[]⟩) ::
(nat_lit 240,⟨(.type "code"),.none,(.fields #[(.str "text_instr" 510),(.str "text_instr" 511),(.str "/claim/cut.py" 512),(.int 207 0),(.int 2 0),(.int 0 0),(.int 0 0),(.int 3 0),(.ref 235),(.bool .true),(.int 181 0),(.ref 236),.none,(.ref 237),(.ref 238),(.ref 239),(.int 516 0),(.int 207 0),(.str "/claim/cut.py" 517)]),#[]⟩) ::
(nat_lit 241,⟨(.type "function"),.none,(.func ⟨"text_instr","text_instr",p241,(.stmts b241),s241,3,[],.none,.none,.none,(.str "basicplus.textfns" 379),.none,(.ref 240),.none,0⟩),#[]⟩) ::
(nat_lit 242,⟨(.type "tuple"),.none,(.seq #[] 0),#[]⟩) ::
(nat_lit 244,⟨(.type "tuple"),.none,(.seq #[(.str "world" 522),(.str "args" 523)] 0),#[]⟩) ::
(nat_lit 245,⟨(.type "tuple"),.none,(.seq #[] 0),#[]⟩) ::
(nat_lit 247,⟨(.type "code"),.none,(.fields #[(.str "text_chr" 519),(.str "text_chr" 520),(.str "/claim/cut.py" 521),(.int 212 0),(.int 2 0),(.int 0 0),(.int 0 0),(.int 3 0),(.ref 242),(.bool .true),(.int 181 0),(.ref 243),.none,(.ref 244),(.ref 245),(.ref 246),(.int 524 0),(.int 212 0),(.str "/claim/cut.py" 525)]),#[]⟩) ::
(nat_lit 248,⟨(.type "function"),.none,(.func ⟨"text_chr","text_chr",p248,(.stmts b248),s248,3,[],.none,.none,.none,(.str "basicplus.textfns" 379),.none,(.ref 247),.none,0⟩),#[]⟩) ::
(nat_lit 249,⟨(.type "tuple"),.none,(.seq #[] 0),#[]⟩) ::
(nat_lit 251,⟨(.type "tuple"),.none,(.seq #[(.str "world" 530),(.str "args" 531),(.str "text" 532)] 0),#[]⟩) ::
(nat_lit 252,⟨(.type "tuple"),.none,(.seq #[] 0),#[]⟩) ::
(nat_lit 254,⟨(.type "code"),.none,(.fields #[(.str "text_left" 527),(.str "text_left" 528),(.str "/claim/cut.py" 529),(.int 214 0),(.int 2 0),(.int 0 0),(.int 0 0),(.int 3 0),(.ref 249),(.bool .true),(.int 181 0),(.ref 250),.none,(.ref 251),(.ref 252),(.ref 253),(.int 533 0),(.int 214 0),(.str "/claim/cut.py" 534)]),#[]⟩) ::
(nat_lit 255,⟨(.type "function"),.none,(.func ⟨"text_left","text_left",p255,(.stmts b255),s255,3,[],.none,.none,.none,(.str "basicplus.textfns" 379),.none,(.ref 254),.none,0⟩),#[]⟩) ::
(nat_lit 256,⟨(.type "tuple"),.none,(.seq #[] 0),#[]⟩) ::
(nat_lit 258,⟨(.type "tuple"),.none,(.seq #[(.str "world" 539),(.str "args" 540),(.str "text" 541),(.str "many" 542)] 0),#[]⟩) ::
(nat_lit 259,⟨(.type "tuple"),.none,(.seq #[] 0),#[]⟩) ::
(nat_lit 261,⟨(.type "code"),.none,(.fields #[(.str "text_right" 536),(.str "text_right" 537),(.str "/claim/cut.py" 538),(.int 217 0),(.int 2 0),(.int 0 0),(.int 0 0),(.int 3 0),(.ref 256),(.bool .true),(.int 181 0),(.ref 257),.none,(.ref 258),(.ref 259),(.ref 260),(.int 543 0),(.int 217 0),(.str "/claim/cut.py" 544)]),#[]⟩) ::
(nat_lit 262,⟨(.type "function"),.none,(.func ⟨"text_right","text_right",p262,(.stmts b262),s262,3,[],.none,.none,.none,(.str "basicplus.textfns" 379),.none,(.ref 261),.none,0⟩),#[]⟩) ::
(nat_lit 263,⟨(.type "tuple"),.none,(.seq #[] 0),#[]⟩) ::
(nat_lit 265,⟨(.type "tuple"),.none,(.seq #[(.str "world" 549),(.str "args" 550),(.str "text" 551),(.str "begin" 552),(.str "many" 553)] 0),#[]⟩) ::
(nat_lit 266,⟨(.type "tuple"),.none,(.seq #[] 0),#[]⟩) ::
(nat_lit 268,⟨(.type "code"),.none,(.fields #[(.str "text_mid" 546),(.str "text_mid" 547),(.str "/claim/cut.py" 548),(.int 220 0),(.int 2 0),(.int 0 0),(.int 0 0),(.int 3 0),(.ref 263),(.bool .true),(.int 181 0),(.ref 264),.none,(.ref 265),(.ref 266),(.ref 267),(.int 554 0),(.int 220 0),(.str "/claim/cut.py" 555)]),#[]⟩) ::
(nat_lit 269,⟨(.type "function"),.none,(.func ⟨"text_mid","text_mid",p269,(.stmts b269),s269,3,[],.none,.none,.none,(.str "basicplus.textfns" 379),.none,(.ref 268),.none,0⟩),#[]⟩) ::
(nat_lit 270,⟨(.type "tuple"),.none,(.seq #[] 0),#[]⟩) ::
(nat_lit 273,⟨(.type "code"),.none,(.fields #[(.str "text_seg" 557),(.str "text_seg" 558),(.str "/claim/cut.py" 559),(.int 224 0),(.int 2 0),(.int 0 0),(.int 0 0),(.int 3 0),(.ref 270),(.bool .true),(.int 181 0),(.ref 271),.none,.none,.none,(.ref 272),(.int 560 0),(.int 224 0),(.str "/claim/cut.py" 561)]),#[]⟩) ::
(nat_lit 274,⟨(.type "function"),.none,(.func ⟨"text_seg","text_seg",p274,(.stmts b274),s274,3,[],.none,.none,.none,(.str "basicplus.textfns" 379),.none,(.ref 273),.none,0⟩),#[]⟩) ::
(nat_lit 275,⟨(.type "tuple"),.none,(.seq #[] 0),#[]⟩) ::
(nat_lit 277,⟨(.type "tuple"),.none,(.seq #[(.str "world" 566),(.str "args" 567)] 0),#[]⟩) ::
(nat_lit 278,⟨(.type "tuple"),.none,(.seq #[] 0),#[]⟩) ::
(nat_lit 280,⟨(.type "code"),.none,(.fields #[(.str "text_str" 563),(.str "text_str" 564),(.str "/claim/cut.py" 565),(.int 231 0),(.int 2 0),(.int 0 0),(.int 0 0),(.int 3 0),(.ref 275),(.bool .true),(.int 181 0),(.ref 276),.none,(.ref 277),(.ref 278),(.ref 279),(.int 568 0),(.int 231 0),(.str "/claim/cut.py" 569)]),#[]⟩) ::
(nat_lit 281,⟨(.type "function"),.none,(.func ⟨"text_str","text_str",p281,(.stmts b281),s281,3,[],.none,.none,.none,(.str "basicplus.textfns" 379),.none,(.ref 280),.none,0⟩),#[]⟩) ::
(nat_lit 282,⟨(.type "tuple"),.none,(.seq #[] 0),#[]⟩) ::
(nat_lit 284,⟨(.type "tuple"),.none,(.seq #[(.str "world" 574),(.str "args" 575)] 0),#[]⟩) ::
(nat_lit 285,⟨(.type "tuple"),.none,(.seq #[] 0),#[]⟩) ::
(nat_lit 287,⟨(.type "code"),.none,(.fields #[(.str "text_space" 571),(.str "text_space" 572),(.str "/claim/cut.py" 573),(.int 235 0),(.int 2 0),(.int 0 0),(.int 0 0),(.int 3 0),(.ref 282),(.bool .true),(.int 181 0),(.ref 283),.none,(.ref 284),(.ref 285),(.ref 286),(.int 576 0),(.int 235 0),(.str "/claim/cut.py" 577)]),#[]⟩) ::
(nat_lit 288,⟨(.type "function"),.none,(.func ⟨"text_space","text_space",p288,(.stmts b288),s288,3,[],.none,.none,.none,(.str "basicplus.textfns" 379),.none,(.ref 287),.none,0⟩),#[]⟩) ::
(nat_lit 289,⟨(.type "tuple"),.none,(.seq #[] 0),#[]⟩) ::
(nat_lit 291,⟨(.type "tuple"),.none,(.seq #[(.str "world" 582),(.str "args" 583),(.str "many" 584)] 0),#[]⟩) ::
(nat_lit 292,⟨(.type "tuple"),.none,(.seq #[] 0),#[]⟩) ::
(nat_lit 294,⟨(.type "code"),.none,(.fields #[(.str "text_string" 579),(.str "text_string" 580),(.str "/claim/cut.py" 581),(.int 237 0),(.int 2 0),(.int 0 0),(.int 0 0),(.int 3 0),(.ref 289),(.bool .true),(.int 181 0),(.ref 290),.none,(.ref 291),(.ref 292),(.ref 293),(.int 585 0),(.int 237 0),(.str "/claim/cut.py" 586)]),#[]⟩) ::
(nat_lit 295,⟨(.type "function"),.none,(.func ⟨"text_string","text_string",p295,(.stmts b295),s295,3,[],.none,.none,.none,(.str "basicplus.textfns" 379),.none,(.ref 294),.none,0⟩),#[]⟩) ::
(nat_lit 296,⟨(.type "tuple"),.none,(.seq #[] 0),#[]⟩) ::
(nat_lit 298,⟨(.type "tuple"),.none,(.seq #[(.str "world" 591),(.str "value" 592),(.str "number" 593)] 0),#[]⟩) ::
(nat_lit 299,⟨(.type "tuple"),.none,(.seq #[] 0),#[]⟩) ::
(nat_lit 301,⟨(.type "code"),.none,(.fields #[(.str "bits_told" 588),(.str "bits_told" 589),(.str "/claim/cut.py" 590),(.int 244 0),(.int 2 0),(.int 0 0),(.int 0 0),(.int 3 0),(.ref 296),(.bool .true),(.int 181 0),(.ref 297),.none,(.ref 298),(.ref 299),(.ref 300),(.int 594 0),(.int 244 0),(.str "/claim/cut.py" 595)]),#[]⟩) ::
(nat_lit 302,⟨(.type "function"),.none,(.func ⟨"bits_told","bits_told",p302,(.stmts b302),s302,3,[],.none,.none,.none,(.str "basicplus.textfns" 379),.none,(.ref 301),.none,0⟩),#[]⟩) ::
(nat_lit 303,⟨(.type "tuple"),.none,(.seq #[] 0),#[]⟩) ::
(nat_lit 305,⟨(.type "tuple"),.none,(.seq #[(.str "world" 600),(.str "args" 601)] 0),#[]⟩) ::
(nat_lit 306,⟨(.type "tuple"),.none,(.seq #[] 0),#[]⟩) ::
(nat_lit 308,⟨(.type "code"),.none,(.fields #[(.str "text_hex" 597),(.str "text_hex" 598),(.str "/claim/cut.py" 599),(.int 251 0),(.int 2 0),(.int 0 0),(.int 0 0),(.int 3 0),(.ref 303),(.bool .true),(.int 181 0),(.ref 304),.none,(.ref 305),(.ref 306),(.ref 307),(.int 602 0),(.int 251 0),(.str "/claim/cut.py" 603)]),#[]⟩) ::
(nat_lit 309,⟨(.type "function"),.none,(.func ⟨"text_hex","text_hex",p309,(.stmts b309),s309,3,[],.none,.none,.none,(.str "basicplus.textfns" 379),.none,(.ref 308),.none,0⟩),#[]⟩) ::
(nat_lit 310,⟨(.type "tuple"),.none,(.seq #[] 0),#[]⟩) ::
(nat_lit 312,⟨(.type "tuple"),.none,(.seq #[(.str "world" 608),(.str "args" 609)] 0),#[]⟩) ::
(nat_lit 313,⟨(.type "tuple"),.none,(.seq #[] 0),#[]⟩) ::
(nat_lit 315,⟨(.type "code"),.none,(.fields #[(.str "text_oct" 605),(.str "text_oct" 606),(.str "/claim/cut.py" 607),(.int 253 0),(.int 2 0),(.int 0 0),(.int 0 0),(.int 3 0),(.ref 310),(.bool .true),(.int 181 0),(.ref 311),.none,(.ref 312),(.ref 313),(.ref 314),(.int 610 0),(.int 253 0),(.str "/claim/cut.py" 611)]),#[]⟩) ::
(nat_lit 316,⟨(.type "function"),.none,(.func ⟨"text_oct","text_oct",p316,(.stmts b316),s316,3,[],.none,.none,.none,(.str "basicplus.textfns" 379),.none,(.ref 315),.none,0⟩),#[]⟩) ::
(nat_lit 317,⟨(.type "tuple"),.none,(.seq #[] 0),#[]⟩) ::
(nat_lit 320,⟨(.type "code"),.none,(.fields #[(.str "text_ucase" 613),(.str "text_ucase" 614),(.str "/claim/cut.py" 615),(.int 255 0),(.int 2 0),(.int 0 0),(.int 0 0),(.int 3 0),(.ref 317),(.bool .true),(.int 181 0),(.ref 318),.none,.none,.none,(.ref 319),(.int 616 0),(.int 255 0),(.str "/claim/cut.py" 617)]),#[]⟩) ::
(nat_lit 321,⟨(.type "function"),.none,(.func ⟨"text_ucase","text_ucase",p321,(.stmts b321),s321,3,[],.none,.none,.none,(.str "basicplus.textfns" 379),.none,(.ref 320),.none,0⟩),#[]⟩) ::
(nat_lit 322,⟨(.type "tuple"),.none,(.seq #[] 0),#[]⟩) ::
(nat_lit 325,⟨(.type "code"),.none,(.fields #[(.str "text_lcase" 619),(.str "text_lcase" 620),(.str "/claim/cut.py" 621),(.int 257 0),(.int 2 0),(.int 0 0),(.int 0 0),(.int 3 0),(.ref 322),(.bool .true),(.int 181 0),(.ref 323),.none,.none,.none,(.ref 324),(.int 622 0),(.int 257 0),(.str "/claim/cut.py" 623)]),#[]⟩) ::
(nat_lit 326,⟨(.type "function"),.none,(.func ⟨"text_lcase","text_lcase",p326,(.stmts b326),s326,3,[],.none,.none,.none,(.str "basicplus.textfns" 379),.none,(.ref 325),.none,0⟩),#[]⟩) ::
(nat_lit 327,⟨(.type "tuple"),.none,(.seq #[] 0),#[]⟩) ::
(nat_lit 329,⟨(.type "tuple"),.none,(.seq #[(.str "world" 628),(.str "args" 629)] 0),#[]⟩) ::
(nat_lit 330,⟨(.type "tuple"),.none,(.seq #[] 0),#[]⟩) ::
(nat_lit 332,⟨(.type "code"),.none,(.fields #[(.str "text_ltrim" 625),(.str "text_ltrim" 626),(.str "/claim/cut.py" 627),(.int 259 0),(.int 2 0),(.int 0 0),(.int 0 0),(.int 3 0),(.ref 327),(.bool .true),(.int 181 0),(.ref 328),.none,(.ref 329),(.ref 330),(.ref 331),(.int 630 0),(.int 259 0),(.str "/claim/cut.py" 631)]),#[]⟩) ::
(nat_lit 333,⟨(.type "function"),.none,(.func ⟨"text_ltrim","text_ltrim",p333,(.stmts b333),s333,3,[],.none,.none,.none,(.str "basicplus.textfns" 379),.none,(.ref 332),.none,0⟩),#[]⟩) ::
(nat_lit 334,⟨(.type "tuple"),.none,(.seq #[] 0),#[]⟩) ::
(nat_lit 336,⟨(.type "tuple"),.none,(.seq #[(.str "world" 636),(.str "args" 637)] 0),#[]⟩) ::
(nat_lit 337,⟨(.type "tuple"),.none,(.seq #[] 0),#[]⟩) ::
(nat_lit 339,⟨(.type "code"),.none,(.fields #[(.str "text_rtrim" 633),(.str "text_rtrim" 634),(.str "/claim/cut.py" 635),(.int 261 0),(.int 2 0),(.int 0 0),(.int 0 0),(.int 3 0),(.ref 334),(.bool .true),(.int 181 0),(.ref 335),.none,(.ref 336),(.ref 337),(.ref 338),(.int 638 0),(.int 261 0),(.str "/claim/cut.py" 639)]),#[]⟩) ::
(nat_lit 340,⟨(.type "function"),.none,(.func ⟨"text_rtrim","text_rtrim",p340,(.stmts b340),s340,3,[],.none,.none,.none,(.str "basicplus.textfns" 379),.none,(.ref 339),.none,0⟩),#[]⟩) ::
(nat_lit 341,⟨(.type "tuple"),.none,(.seq #[] 0),#[]⟩) ::
(nat_lit 343,⟨(.type "tuple"),.none,(.seq #[(.str "world" 644),(.str "args" 645),(.str "text" 646),(.str "flags" 647)] 0),#[]⟩) ::
(nat_lit 344,⟨(.type "tuple"),.none,(.seq #[] 0),#[]⟩) ::
(nat_lit 346,⟨(.type "code"),.none,(.fields #[(.str "text_edit" 641),(.str "text_edit" 642),(.str "/claim/cut.py" 643),(.int 263 0),(.int 2 0),(.int 0 0),(.int 0 0),(.int 3 0),(.ref 341),(.bool .true),(.int 181 0),(.ref 342),.none,(.ref 343),(.ref 344),(.ref 345),(.int 648 0),(.int 263 0),(.str "/claim/cut.py" 649)]),#[]⟩) ::
(nat_lit 347,⟨(.type "function"),.none,(.func ⟨"text_edit","text_edit",p347,(.stmts b347),s347,3,[],.none,.none,.none,(.str "basicplus.textfns" 379),.none,(.ref 346),.none,0⟩),#[]⟩) ::
(nat_lit 348,⟨(.type "tuple"),.none,(.seq #[] 0),#[]⟩) ::
(nat_lit 350,⟨(.type "tuple"),.none,(.seq #[(.str "world" 654),(.str "args" 655)] 0),#[]⟩) ::
(nat_lit 351,⟨(.type "tuple"),.none,(.seq #[] 0),#[]⟩) ::
(nat_lit 353,⟨(.type "code"),.none,(.fields #[(.str "text_xlate" 651),(.str "text_xlate" 652),(.str "/claim/cut.py" 653),(.int 271 0),(.int 2 0),(.int 0 0),(.int 0 0),(.int 3 0),(.ref 348),(.bool .true),(.int 181 0),(.ref 349),.none,(.ref 350),(.ref 351),(.ref 352),(.int 656 0),(.int 271 0),(.str "/claim/cut.py" 657)]),#[]⟩) ::
(nat_lit 354,⟨(.type "function"),.none,(.func ⟨"text_xlate","text_xlate",p354,(.stmts b354),s354,3,[],.none,.none,.none,(.str "basicplus.textfns" 379),.none,(.ref 353),.none,0⟩),#[]⟩) ::
(nat_lit 362,⟨(.type "tuple"),.none,(.seq #[(.int 16 673),(.int 9 674),(.int 2000 675),(.int 20 676),(.int 2000 677)] 0),#[]⟩) ::
(nat_lit 363,⟨(.type "tuple"),.none,(.seq #[] 0),#[]⟩) ::
(nat_lit 365,⟨(.type "tuple"),.none,(.seq #[(.str "self" 681),(.str "bits" 682),(.str "digits" 683),(.str "most_steps" 684),(.str "most_depth" 685),(.str "room" 686)] 0),#[]⟩) ::
(nat_lit 366,⟨(.type "tuple"),.none,(.seq #[] 0),#[]⟩) ::
(nat_lit 368,⟨(.type "code"),.none,(.fields #[(.str "__init__" 678),(.str "World.__init__" 679),(.str "/claim/cut.py" 680),(.int 276 0),(.int 6 0),(.int 0 0),(.int 0 0),(.int 3 0),(.ref 363),(.bool .true),(.int 181 0),(.ref 364),.none,(.ref 365),(.ref 366),(.ref 367),(.int 687 0),(.int 276 0),(.str "/claim/cut.py" 688)]),#[]⟩) ::
(nat_lit 369,⟨(.type "function"),.none,(.func ⟨"__init__","World.__init__",p369,(.stmts b369),s369,3,[],(.ref 362),.none,.none,(.str "basicplus.world" 659),.none,(.ref 368),.none,0⟩),#[]⟩) ::
(nat_lit 370,⟨(.type "tuple"),.none,(.seq #[(.str "arrays" 690),(.str "base" 691),(.str "bits" 692),(.str "common" 693),(.str "data" 694),(.str "depth" 695),(.str "digits" 696),(.str "error_code" 697),(.str "error_line" 698),(.str "fields" 699),(.str "files" 700),(.str "fns" 701),(.str "handler" 702),(.str "inputs" 703),(.str "is_handling" 704),(.str "is_traced" 705),(.str "kinds" 706),(.str "most_depth" 707),(.str "most_steps" 708),(.str "names" 709),(.str "open" 710),(.str "out" 711),(.str "room" 712),(.str "row" 713),(.str "seed" 714),(.str "spot" 715),(.str "steps" 716),(.str "traces" 717)] 0),#[]⟩) ::
(nat_lit 371,⟨(.type "dict"),.none,(.dict #[⟨(keyHash P "__module__"),(.str "__module__" 668),(.str "basicplus.world" 659)⟩,⟨(keyHash P "__firstlineno__"),(.str "__firstlineno__" 672),(.int 274 671)⟩,⟨(keyHash P "__init__"),(.str "__init__" 689),(.ref 369)⟩,⟨(keyHash P "__static_attributes__"),(.str "__static_attributes__" 718),(.ref 370)⟩,⟨(keyHash P "__dict__"),(.str "__dict__" 720),(.ref 373)⟩,⟨(keyHash P "__weakref__"),(.str "__weakref__" 722),(.ref 374)⟩,⟨(keyHash P "__doc__"),(.str "__doc__" 723),.none⟩] 4),#[]⟩) ::
(nat_lit 372,⟨(.type "type"),.none,(.cls ⟨"World",[(.type "object")],[(.ref 372),(.type "object")],371,"World",.true,[],[],.false,.none,.false⟩),#[.none,.none,(.some (.str "World" 661)),(.some (.str "World" 669)),(.some (.builtin "object.__new__")),(.some (.bool .true))]⟩) ::
(nat_lit 373,⟨(.type "getset_descriptor"),.none,(.fields #[(.str "__dict__" 719),(.ref 372),(.builtin "function.__dict__"),(.builtin "function.__dict__#set")]),#[]⟩) ::
(nat_lit 374,⟨(.type "getset_descriptor"),.none,(.fields #[(.str "__weakref__" 721),(.ref 372),(.builtin "ExceptionGroup.__weakref__"),.none]),#[]⟩) ::
(nat_lit 377,⟨(.type "tuple"),.none,(.seq #[] 0),#[]⟩) ::
(nat_lit 379,⟨(.type "tuple"),.none,(.seq #[(.str "pool" 731),(.str "many" 732),(.str "spot" 733)] 0),#[]⟩) ::
(nat_lit 380,⟨(.type "tuple"),.none,(.seq #[] 0),#[]⟩) ::
(nat_lit 382,⟨(.type "code"),.none,(.fields #[(.str "_law_draw" 728),(.str "_law_draw" 729),(.str "/claim/cut.py" 730),(.int 306 0),(.int 2 0),(.int 0 0),(.int 0 0),(.int 3 0),(.ref 377),(.bool .true),(.int 181 0),(.ref 378),.none,(.ref 379),(.ref 380),(.ref 381),(.int 734 0),(.int 306 0),(.str "/claim/cut.py" 735)]),#[]⟩) ::
(nat_lit 383,⟨(.type "function"),.none,(.func ⟨"_law_draw","_law_draw",p383,(.stmts b383),s383,3,[],.none,.none,.none,(.str "law_pf0012_01" 726),.none,(.ref 382),.none,0⟩),#[]⟩) ::
(nat_lit 384,⟨(.type "tuple"),.none,(.seq #[] 0),#[]⟩) ::
(nat_lit 387,⟨(.type "code"),.none,(.fields #[(.str "_law_signs" 737),(.str "_law_signs" 738),(.str "/claim/cut.py" 739),(.int 312 0),(.int 2 0),(.int 0 0),(.int 0 0),(.int 3 0),(.ref 384),(.bool .true),(.int 181 0),(.ref 385),.none,.none,.none,(.ref 386),(.int 740 0),(.int 312 0),(.str "/claim/cut.py" 741)]),#[]⟩) ::
(nat_lit 388,⟨(.type "function"),.none,(.func ⟨"_law_signs","_law_signs",p388,(.stmts b388),s388,3,[],.none,.none,.none,(.str "law_pf0012_01" 726),.none,(.ref 387),.none,0⟩),#[]⟩) ::
(nat_lit 389,⟨(.type "tuple"),.none,(.seq #[] 0),#[]⟩) ::
(nat_lit 391,⟨(.type "tuple"),.none,(.seq #[(.str "work" 746),(.str "args" 747),(.str "e" 748)] 0),#[]⟩) ::
(nat_lit 392,⟨(.type "tuple"),.none,(.seq #[] 0),#[]⟩) ::
(nat_lit 394,⟨(.type "code"),.none,(.fields #[(.str "_law_heard" 743),(.str "_law_heard" 744),(.str "/claim/cut.py" 745),(.int 314 0),(.int 2 0),(.int 0 0),(.int 0 0),(.int 3 0),(.ref 389),(.bool .true),(.int 181 0),(.ref 390),.none,(.ref 391),(.ref 392),(.ref 393),(.int 749 0),(.int 314 0),(.str "/claim/cut.py" 750)]),#[]⟩) ::
(nat_lit 395,⟨(.type "function"),.none,(.func ⟨"_law_heard","_law_heard",p395,(.stmts b395),s395,3,[],.none,.none,.none,(.str "law_pf0012_01" 726),.none,(.ref 394),.none,0⟩),#[]⟩) ::
(nat_lit 396,⟨(.type "tuple"),.none,(.seq #[] 0),#[]⟩) ::
(nat_lit 399,⟨(.type "code"),.none,(.fields #[(.str "_law_kept" 752),(.str "_law_kept" 753),(.str "/claim/cut.py" 754),(.int 319 0),(.int 2 0),(.int 0 0),(.int 0 0),(.int 3 0),(.ref 396),(.bool .true),(.int 181 0),(.ref 397),.none,.none,.none,(.ref 398),(.int 755 0),(.int 319 0),(.str "/claim/cut.py" 756)]),#[]⟩) ::
(nat_lit 400,⟨(.type "function"),.none,(.func ⟨"_law_kept","_law_kept",p400,(.stmts b400),s400,3,[],.none,.none,.none,(.str "law_pf0012_01" 726),.none,(.ref 399),.none,0⟩),#[]⟩) ::
(nat_lit 401,⟨(.type "tuple"),.none,(.seq #[] 0),#[]⟩) ::
(nat_lit 404,⟨(.type "code"),.none,(.fields #[(.str "_law_cuts_right" 758),(.str "_law_cuts_right" 759),(.str "/claim/cut.py" 760),(.int 321 0),(.int 1 0),(.int 0 0),(.int 0 0),(.int 3 0),(.ref 401),(.bool .true),(.int 181 0),(.ref 402),.none,.none,.none,(.ref 403),(.int 761 0),(.int 321 0),(.str "/claim/cut.py" 762)]),#[]⟩) ::
(nat_lit 405,⟨(.type "function"),.none,(.func ⟨"_law_cuts_right","_law_cuts_right",p405,(.stmts b405),s405,3,[],.none,.none,.none,(.str "law_pf0012_01" 726),.none,(.ref 404),.none,0⟩),#[]⟩) ::
(nat_lit 406,⟨(.type "tuple"),.none,(.seq #[] 0),#[]⟩) ::
(nat_lit 409,⟨(.type "code"),.none,(.fields #[(.str "_law_places_right" 764),(.str "_law_places_right" 765),(.str "/claim/cut.py" 766),(.int 338 0),(.int 1 0),(.int 0 0),(.int 0 0),(.int 3 0),(.ref 406),(.bool .true),(.int 181 0),(.ref 407),.none,.none,.none,(.ref 408),(.int 767 0),(.int 338 0),(.str "/claim/cut.py" 768)]),#[]⟩) ::
(nat_lit 410,⟨(.type "function"),.none,(.func ⟨"_law_places_right","_law_places_right",p410,(.stmts b410),s410,3,[],.none,.none,.none,(.str "law_pf0012_01" 726),.none,(.ref 409),.none,0⟩),#[]⟩) ::
(nat_lit 411,⟨(.type "tuple"),.none,(.seq #[] 0),#[]⟩) ::
(nat_lit 414,⟨(.type "code"),.none,(.fields #[(.str "_law_letters_right" 770),(.str "_law_letters_right" 771),(.str "/claim/cut.py" 772),(.int 348 0),(.int 1 0),(.int 0 0),(.int 0 0),(.int 3 0),(.ref 411),(.bool .true),(.int 181 0),(.ref 412),.none,.none,.none,(.ref 413),(.int 773 0),(.int 348 0),(.str "/claim/cut.py" 774)]),#[]⟩) ::
(nat_lit 415,⟨(.type "function"),.none,(.func ⟨"_law_letters_right","_law_letters_right",p415,(.stmts b415),s415,3,[],.none,.none,.none,(.str "law_pf0012_01" 726),.none,(.ref 414),.none,0⟩),#[]⟩) ::
(nat_lit 416,⟨(.type "tuple"),.none,(.seq #[] 0),#[]⟩) ::
(nat_lit 418,⟨(.type "tuple"),.none,(.seq #[(.str "pool" 779),(.str "code" 780),(.str "many" 781),(.str "number" 782),(.str "work" 783),(.str "base" 784),(.str "amount" 785),(.str "sign" 786),(.str "told" 787),(.str "heard" 788),(.str "tail" 789)] 0),#[]⟩) ::
(nat_lit 419,⟨(.type "tuple"),.none,(.seq #[] 0),#[]⟩) ::
(nat_lit 421,⟨(.type "code"),.none,(.fields #[(.str "_law_codes_right" 776),(.str "_law_codes_right" 777),(.str "/claim/cut.py" 778),(.int 358 0),(.int 1 0),(.int 0 0),(.int 0 0),(.int 3 0),(.ref 416),(.bool .true),(.int 181 0),(.ref 417),.none,(.ref 418),(.ref 419),(.ref 420),(.int 790 0),(.int 358 0),(.str "/claim/cut.py" 791)]),#[]⟩) ::
(nat_lit 422,⟨(.type "function"),.none,(.func ⟨"_law_codes_right","_law_codes_right",p422,(.stmts b422),s422,3,[],.none,.none,.none,(.str "law_pf0012_01" 726),.none,(.ref 421),.none,0⟩),#[]⟩) ::
(nat_lit 423,⟨(.type "tuple"),.none,(.seq #[] 0),#[]⟩) ::
(nat_lit 425,⟨(.type "tuple"),.none,(.seq #[(.str "text" 796),(.str "flags" 797),(.str "told" 798),(.str "is_within" 799),(.str "sign" 800)] 0),#[]⟩) ::
(nat_lit 426,⟨(.type "tuple"),.none,(.seq #[] 0),#[]⟩) ::
(nat_lit 428,⟨(.type "code"),.none,(.fields #[(.str "_law_edited" 793),(.str "_law_edited" 794),(.str "/claim/cut.py" 795),(.int 381 0),(.int 2 0),(.int 0 0),(.int 0 0),(.int 3 0),(.ref 423),(.bool .true),(.int 181 0),(.ref 424),.none,(.ref 425),(.ref 426),(.ref 427),(.int 801 0),(.int 381 0),(.str "/claim/cut.py" 802)]),#[]⟩) ::
(nat_lit 429,⟨(.type "function"),.none,(.func ⟨"_law_edited","_law_edited",p429,(.stmts b429),s429,3,[],.none,.none,.none,(.str "law_pf0012_01" 726),.none,(.ref 428),.none,0⟩),#[]⟩) ::
(nat_lit 430,⟨(.type "tuple"),.none,(.seq #[] 0),#[]⟩) ::
(nat_lit 433,⟨(.type "code"),.none,(.fields #[(.str "_law_edits_right" 804),(.str "_law_edits_right" 805),(.str "/claim/cut.py" 806),(.int 403 0),(.int 1 0),(.int 0 0),(.int 0 0),(.int 3 0),(.ref 430),(.bool .true),(.int 181 0),(.ref 431),.none,.none,.none,(.ref 432),(.int 807 0),(.int 403 0),(.str "/claim/cut.py" 808)]),#[]⟩) ::
(nat_lit 434,⟨(.type "function"),.none,(.func ⟨"_law_edits_right","_law_edits_right",p434,(.stmts b434),s434,3,[],.none,.none,.none,(.str "law_pf0012_01" 726),.none,(.ref 433),.none,0⟩),#[]⟩) ::
(nat_lit 435,⟨(.type "tuple"),.none,(.seq #[] 0),#[]⟩) ::
(nat_lit 437,⟨(.type "tuple"),.none,(.seq #[(.str "script" 813),(.str "pool" 814),(.str "form" 815)] 0),#[]⟩) ::
(nat_lit 438,⟨(.type "tuple"),.none,(.seq #[] 0),#[]⟩) ::
(nat_lit 440,⟨(.type "code"),.none,(.fields #[(.str "law" 810),(.str "law" 811),(.str "/claim/cut.py" 812),(.int 413 0),(.int 1 0),(.int 0 0),(.int 0 0),(.int 3 0),(.ref 435),(.bool .true),(.int 181 0),(.ref 436),.none,(.ref 437),(.ref 438),(.ref 439),(.int 816 0),(.int 413 0),(.str "/claim/cut.py" 817)]),#[]⟩) ::
(nat_lit 441,⟨(.type "function"),.none,(.func ⟨"law","law",p441,(.stmts b441),s441,3,[],.none,.none,.none,(.str "law_pf0012_01" 726),.none,(.ref 440),.none,0⟩),#[]⟩) :: [])
 _ _ _ _ _ _ _ _ _ _ rfl
 _ _ _ _ _ _ _ _ _ _ rfl
 _ _ _ _ _ _ _ _ _ _ rfl
 _ _ _ _ _ _ _ _ _ _ rfl
 _ _ _ _ _ _ _ _ _ _ rfl
 _ _ _ _ _ _ _ _ _ _ rfl
 _ _ _ _ _ _ _ _ _ _ rfl
 _ _ _ _ _ _ _ _ _ _ rfl
 _ _ _ _ _ _ _ _ _ _ rfl
 _ _ _ _ _ _ _ _ _ _ rfl
 _ _ _ _ _ _ _ _ _ _ rfl
 _ _ _ _ _ _ _ _ _ _ rfl
 _ _ _ _ _ _ _ _ _ _ rfl
 _ _ _ _ _ _ _ _ _ _ rfl
 _ _ _ _ _ _ _ _ _ _ rfl
 _ _ _ _ _ _ _ _ _ _ rfl
 _ _ _ _ _ _ _ _ _ _ rfl
 _ _ _ _ _ _ _ _ _ _ rfl
 _ _ _ _ _ _ _ _ _ _ rfl
 _ _ _ _ _ _ _ _ _ _ rfl
 _ _ _ _ _ _ _ _ _ _ rfl
 _ _ _ _ _ _ _ _ _ _ rfl
 _ _ _ _ _ _ _ _ _ _ rfl
 _ _ _ _ _ _ _ _ _ _ rfl
 _ _ _ _ _ _ _ _ _ _ rfl
 _ _ _ _ _ _ _ _ _ _ rfl
 _ _ _ _ _ _ _ _ _ _ rfl
 _ _ _ _ _ _ _ _ _ _ rfl
 _ _ _ _ _ _ _ _ _ _ rfl
 _ _ _ _ _ _ _ _ _ _ rfl
 _ _ _ _ _ _ _ _ _ _ rfl
 _ _ _ _ _ _ _ _ _ _ rfl
 _ _ _ _ _ _ _ _ _ _ rfl
 _ _ _ _ _ _ _ _ _ _ rfl
 _ _ _ _ _ _ _ _ _ _ rfl
 _ _ _ _ _ _ _ _ _ _ rfl
 _ _ _ _ _ _ _ _ _ _ rfl
 _ _ _ _ _ _ _ _ _ _ rfl
 _ _ _ _ _ _ _ _ _ _ rfl
 _ _ _ _ _ _ _ _ _ _ rfl
 _ _ _ _ _ _ _ _ _ _ rfl
 _ _ _ _ _ _ _ _ _ _ rfl
 _ _ _ _ _ _ _ _ _ _ rfl
 _ _ _ _ _ _ _ _ _ _ rfl
 _ _ _ _ _ _ _ _ _ _ rfl
 _ _ _ _ _ _ _ _ _ _ rfl
 _ _ _ _ _ _ _ _ _ _ rfl
 _ _ _ _ _ _ _ _ _ _ rfl
 _ _ _ _ _ _ _ _ _ _ rfl
 _ _ _ _ _ _ _ _ _ _ rfl
 _ _ _ _ _ _ _ _ _ _ rfl
 _ _ _ _ _ _ _ _ _ _ rfl
 _ _ _ _ _ _ _ _ _ _ rfl
 _ _ _ _ _ _ _ _ _ _ rfl
 _ _ _ _ _ _ _ _ _ _ rfl
 _ _ _ _ _ _ _ _ _ _ rfl
 _ _ _ _ _ _ _ _ _ _ rfl
 _ _ _ _ _ _ _ _ _ _ rfl
 _ _ _ _ _ _ _ _ _ _ rfl
noncomputable def view_39 : Program := { Challenge.rw_pf0012_01.row.toRowW.1 with main := { Challenge.rw_pf0012_01.row.toRowW.1.main with body := [at_ B 1, at_ B 2, at_ B 3, at_ B 4, at_ B 5, at_ B 6, at_ B 7, at_ B 8, at_ B 10, at_ B 11, at_ B 12, at_ B 13, at_ B 14, at_ B 15, at_ B 16, at_ B 17, at_ B 18, at_ B 19, at_ B 20, at_ B 21, at_ B 22, at_ B 24, at_ B 25, at_ B 26, at_ B 27, at_ B 28, at_ B 29, at_ B 30, at_ B 31, at_ B 32, at_ B 33, at_ B 34, at_ B 35, at_ B 36, at_ B 37, at_ B 38, at_ B 39, at_ B 40, at_ B 41, at_ B 42, at_ B 43, at_ B 44, at_ B 45, at_ B 46, at_ B 47, at_ B 48, at_ B 49, at_ B 50, at_ B 51, at_ B 52, at_ B 53, at_ B 54, at_ B 55, at_ B 56, at_ B 57, at_ B 59, at_ B 61, at_ B 62, at_ B 63, at_ B 64, at_ B 65, at_ B 66, at_ B 67, at_ B 68, at_ B 69, at_ B 70, at_ B 71] } }
end hd
theorem nm_hit {x : Str} {v : Value} {e : Option Value} {i : Decidable (x = x)} : (@ite _ (x = x) i (some v) e) = some v := if_pos rfl
theorem nm_miss {x z : Str} {w : Value} {e : Option Value} {i : Decidable (x = z)} (h : @decide (x = z) i = false) : (@ite _ (x = z) i (some w) e) = e := if_neg (of_decide_eq_false h)
theorem rm0 {a D R : Nat} (h : a + D < R) : a < R := Nat.lt_of_le_of_lt (Nat.le_add_right a D) h
theorem rm1 {a b D R : Nat} (h : a + D < R) (k : b ≤ D) : a + b < R := Nat.lt_of_le_of_lt (Nat.add_le_add_left k a) h
theorem rm2 {a b c D R : Nat} (h : a + D < R) (k : b + c ≤ D) : a + b + c < R := Nat.add_assoc a b c ▸ rm1 h k
theorem rm3 {a b c d D R : Nat} (h : a + D < R) (k : b + c + d ≤ D) : a + b + c + d < R := by rw [Nat.add_assoc a b c, Nat.add_assoc a]; exact rm1 h k
theorem rm4 {a b c d e D R : Nat} (h : a + D < R) (k : b + c + d + e ≤ D) : a + b + c + d + e < R := by rw [Nat.add_assoc a b c, Nat.add_assoc a, Nat.add_assoc a]; exact rm1 h k
theorem and2 {a1 a2 R : Prop} (h : a1 ∧ a2) (k : a1 → a2 → R) : R := k h.1 h.2
theorem and3 {a1 a2 a3 R : Prop} (h : a1 ∧ a2 ∧ a3) (k : a1 → a2 → a3 → R) : R := k h.1 h.2.1 h.2.2
theorem and4 {a1 a2 a3 a4 R : Prop} (h : a1 ∧ a2 ∧ a3 ∧ a4) (k : a1 → a2 → a3 → a4 → R) : R := k h.1 h.2.1 h.2.2.1 h.2.2.2
theorem and5 {a1 a2 a3 a4 a5 R : Prop} (h : a1 ∧ a2 ∧ a3 ∧ a4 ∧ a5) (k : a1 → a2 → a3 → a4 → a5 → R) : R := k h.1 h.2.1 h.2.2.1 h.2.2.2.1 h.2.2.2.2
theorem and6 {a1 a2 a3 a4 a5 a6 R : Prop} (h : a1 ∧ a2 ∧ a3 ∧ a4 ∧ a5 ∧ a6) (k : a1 → a2 → a3 → a4 → a5 → a6 → R) : R := k h.1 h.2.1 h.2.2.1 h.2.2.2.1 h.2.2.2.2.1 h.2.2.2.2.2
theorem and7 {a1 a2 a3 a4 a5 a6 a7 R : Prop} (h : a1 ∧ a2 ∧ a3 ∧ a4 ∧ a5 ∧ a6 ∧ a7) (k : a1 → a2 → a3 → a4 → a5 → a6 → a7 → R) : R := k h.1 h.2.1 h.2.2.1 h.2.2.2.1 h.2.2.2.2.1 h.2.2.2.2.2.1 h.2.2.2.2.2.2
theorem and8 {a1 a2 a3 a4 a5 a6 a7 a8 R : Prop} (h : a1 ∧ a2 ∧ a3 ∧ a4 ∧ a5 ∧ a6 ∧ a7 ∧ a8) (k : a1 → a2 → a3 → a4 → a5 → a6 → a7 → a8 → R) : R := k h.1 h.2.1 h.2.2.1 h.2.2.2.1 h.2.2.2.2.1 h.2.2.2.2.2.1 h.2.2.2.2.2.2.1 h.2.2.2.2.2.2.2
theorem and9 {a1 a2 a3 a4 a5 a6 a7 a8 a9 R : Prop} (h : a1 ∧ a2 ∧ a3 ∧ a4 ∧ a5 ∧ a6 ∧ a7 ∧ a8 ∧ a9) (k : a1 → a2 → a3 → a4 → a5 → a6 → a7 → a8 → a9 → R) : R := k h.1 h.2.1 h.2.2.1 h.2.2.2.1 h.2.2.2.2.1 h.2.2.2.2.2.1 h.2.2.2.2.2.2.1 h.2.2.2.2.2.2.2.1 h.2.2.2.2.2.2.2.2
theorem and10 {a1 a2 a3 a4 a5 a6 a7 a8 a9 a10 R : Prop} (h : a1 ∧ a2 ∧ a3 ∧ a4 ∧ a5 ∧ a6 ∧ a7 ∧ a8 ∧ a9 ∧ a10) (k : a1 → a2 → a3 → a4 → a5 → a6 → a7 → a8 → a9 → a10 → R) : R := k h.1 h.2.1 h.2.2.1 h.2.2.2.1 h.2.2.2.2.1 h.2.2.2.2.2.1 h.2.2.2.2.2.2.1 h.2.2.2.2.2.2.2.1 h.2.2.2.2.2.2.2.2.1 h.2.2.2.2.2.2.2.2.2
theorem and11 {a1 a2 a3 a4 a5 a6 a7 a8 a9 a10 a11 R : Prop} (h : a1 ∧ a2 ∧ a3 ∧ a4 ∧ a5 ∧ a6 ∧ a7 ∧ a8 ∧ a9 ∧ a10 ∧ a11) (k : a1 → a2 → a3 → a4 → a5 → a6 → a7 → a8 → a9 → a10 → a11 → R) : R := k h.1 h.2.1 h.2.2.1 h.2.2.2.1 h.2.2.2.2.1 h.2.2.2.2.2.1 h.2.2.2.2.2.2.1 h.2.2.2.2.2.2.2.1 h.2.2.2.2.2.2.2.2.1 h.2.2.2.2.2.2.2.2.2.1 h.2.2.2.2.2.2.2.2.2.2
theorem and12 {a1 a2 a3 a4 a5 a6 a7 a8 a9 a10 a11 a12 R : Prop} (h : a1 ∧ a2 ∧ a3 ∧ a4 ∧ a5 ∧ a6 ∧ a7 ∧ a8 ∧ a9 ∧ a10 ∧ a11 ∧ a12) (k : a1 → a2 → a3 → a4 → a5 → a6 → a7 → a8 → a9 → a10 → a11 → a12 → R) : R := k h.1 h.2.1 h.2.2.1 h.2.2.2.1 h.2.2.2.2.1 h.2.2.2.2.2.1 h.2.2.2.2.2.2.1 h.2.2.2.2.2.2.2.1 h.2.2.2.2.2.2.2.2.1 h.2.2.2.2.2.2.2.2.2.1 h.2.2.2.2.2.2.2.2.2.2.1 h.2.2.2.2.2.2.2.2.2.2.2
theorem and13 {a1 a2 a3 a4 a5 a6 a7 a8 a9 a10 a11 a12 a13 R : Prop} (h : a1 ∧ a2 ∧ a3 ∧ a4 ∧ a5 ∧ a6 ∧ a7 ∧ a8 ∧ a9 ∧ a10 ∧ a11 ∧ a12 ∧ a13) (k : a1 → a2 → a3 → a4 → a5 → a6 → a7 → a8 → a9 → a10 → a11 → a12 → a13 → R) : R := k h.1 h.2.1 h.2.2.1 h.2.2.2.1 h.2.2.2.2.1 h.2.2.2.2.2.1 h.2.2.2.2.2.2.1 h.2.2.2.2.2.2.2.1 h.2.2.2.2.2.2.2.2.1 h.2.2.2.2.2.2.2.2.2.1 h.2.2.2.2.2.2.2.2.2.2.1 h.2.2.2.2.2.2.2.2.2.2.2.1 h.2.2.2.2.2.2.2.2.2.2.2.2
theorem and14 {a1 a2 a3 a4 a5 a6 a7 a8 a9 a10 a11 a12 a13 a14 R : Prop} (h : a1 ∧ a2 ∧ a3 ∧ a4 ∧ a5 ∧ a6 ∧ a7 ∧ a8 ∧ a9 ∧ a10 ∧ a11 ∧ a12 ∧ a13 ∧ a14) (k : a1 → a2 → a3 → a4 → a5 → a6 → a7 → a8 → a9 → a10 → a11 → a12 → a13 → a14 → R) : R := k h.1 h.2.1 h.2.2.1 h.2.2.2.1 h.2.2.2.2.1 h.2.2.2.2.2.1 h.2.2.2.2.2.2.1 h.2.2.2.2.2.2.2.1 h.2.2.2.2.2.2.2.2.1 h.2.2.2.2.2.2.2.2.2.1 h.2.2.2.2.2.2.2.2.2.2.1 h.2.2.2.2.2.2.2.2.2.2.2.1 h.2.2.2.2.2.2.2.2.2.2.2.2.1 h.2.2.2.2.2.2.2.2.2.2.2.2.2
theorem and15 {a1 a2 a3 a4 a5 a6 a7 a8 a9 a10 a11 a12 a13 a14 a15 R : Prop} (h : a1 ∧ a2 ∧ a3 ∧ a4 ∧ a5 ∧ a6 ∧ a7 ∧ a8 ∧ a9 ∧ a10 ∧ a11 ∧ a12 ∧ a13 ∧ a14 ∧ a15) (k : a1 → a2 → a3 → a4 → a5 → a6 → a7 → a8 → a9 → a10 → a11 → a12 → a13 → a14 → a15 → R) : R := k h.1 h.2.1 h.2.2.1 h.2.2.2.1 h.2.2.2.2.1 h.2.2.2.2.2.1 h.2.2.2.2.2.2.1 h.2.2.2.2.2.2.2.1 h.2.2.2.2.2.2.2.2.1 h.2.2.2.2.2.2.2.2.2.1 h.2.2.2.2.2.2.2.2.2.2.1 h.2.2.2.2.2.2.2.2.2.2.2.1 h.2.2.2.2.2.2.2.2.2.2.2.2.1 h.2.2.2.2.2.2.2.2.2.2.2.2.2.1 h.2.2.2.2.2.2.2.2.2.2.2.2.2.2
theorem and16 {a1 a2 a3 a4 a5 a6 a7 a8 a9 a10 a11 a12 a13 a14 a15 a16 R : Prop} (h : a1 ∧ a2 ∧ a3 ∧ a4 ∧ a5 ∧ a6 ∧ a7 ∧ a8 ∧ a9 ∧ a10 ∧ a11 ∧ a12 ∧ a13 ∧ a14 ∧ a15 ∧ a16) (k : a1 → a2 → a3 → a4 → a5 → a6 → a7 → a8 → a9 → a10 → a11 → a12 → a13 → a14 → a15 → a16 → R) : R := k h.1 h.2.1 h.2.2.1 h.2.2.2.1 h.2.2.2.2.1 h.2.2.2.2.2.1 h.2.2.2.2.2.2.1 h.2.2.2.2.2.2.2.1 h.2.2.2.2.2.2.2.2.1 h.2.2.2.2.2.2.2.2.2.1 h.2.2.2.2.2.2.2.2.2.2.1 h.2.2.2.2.2.2.2.2.2.2.2.1 h.2.2.2.2.2.2.2.2.2.2.2.2.1 h.2.2.2.2.2.2.2.2.2.2.2.2.2.1 h.2.2.2.2.2.2.2.2.2.2.2.2.2.2.1 h.2.2.2.2.2.2.2.2.2.2.2.2.2.2.2
theorem and17 {a1 a2 a3 a4 a5 a6 a7 a8 a9 a10 a11 a12 a13 a14 a15 a16 a17 R : Prop} (h : a1 ∧ a2 ∧ a3 ∧ a4 ∧ a5 ∧ a6 ∧ a7 ∧ a8 ∧ a9 ∧ a10 ∧ a11 ∧ a12 ∧ a13 ∧ a14 ∧ a15 ∧ a16 ∧ a17) (k : a1 → a2 → a3 → a4 → a5 → a6 → a7 → a8 → a9 → a10 → a11 → a12 → a13 → a14 → a15 → a16 → a17 → R) : R := k h.1 h.2.1 h.2.2.1 h.2.2.2.1 h.2.2.2.2.1 h.2.2.2.2.2.1 h.2.2.2.2.2.2.1 h.2.2.2.2.2.2.2.1 h.2.2.2.2.2.2.2.2.1 h.2.2.2.2.2.2.2.2.2.1 h.2.2.2.2.2.2.2.2.2.2.1 h.2.2.2.2.2.2.2.2.2.2.2.1 h.2.2.2.2.2.2.2.2.2.2.2.2.1 h.2.2.2.2.2.2.2.2.2.2.2.2.2.1 h.2.2.2.2.2.2.2.2.2.2.2.2.2.2.1 h.2.2.2.2.2.2.2.2.2.2.2.2.2.2.2.1 h.2.2.2.2.2.2.2.2.2.2.2.2.2.2.2.2
theorem and18 {a1 a2 a3 a4 a5 a6 a7 a8 a9 a10 a11 a12 a13 a14 a15 a16 a17 a18 R : Prop} (h : a1 ∧ a2 ∧ a3 ∧ a4 ∧ a5 ∧ a6 ∧ a7 ∧ a8 ∧ a9 ∧ a10 ∧ a11 ∧ a12 ∧ a13 ∧ a14 ∧ a15 ∧ a16 ∧ a17 ∧ a18) (k : a1 → a2 → a3 → a4 → a5 → a6 → a7 → a8 → a9 → a10 → a11 → a12 → a13 → a14 → a15 → a16 → a17 → a18 → R) : R := k h.1 h.2.1 h.2.2.1 h.2.2.2.1 h.2.2.2.2.1 h.2.2.2.2.2.1 h.2.2.2.2.2.2.1 h.2.2.2.2.2.2.2.1 h.2.2.2.2.2.2.2.2.1 h.2.2.2.2.2.2.2.2.2.1 h.2.2.2.2.2.2.2.2.2.2.1 h.2.2.2.2.2.2.2.2.2.2.2.1 h.2.2.2.2.2.2.2.2.2.2.2.2.1 h.2.2.2.2.2.2.2.2.2.2.2.2.2.1 h.2.2.2.2.2.2.2.2.2.2.2.2.2.2.1 h.2.2.2.2.2.2.2.2.2.2.2.2.2.2.2.1 h.2.2.2.2.2.2.2.2.2.2.2.2.2.2.2.2.1 h.2.2.2.2.2.2.2.2.2.2.2.2.2.2.2.2.2
theorem pr2 {α β : Type} {P : α × β → Prop} (h : ∀ a b, P (a, b)) : ∀ p, P p := fun p => h p.1 p.2
theorem pr3 {α β γ : Type} {P : (α × β) × γ → Prop} (h : ∀ a b c, P ((a, b), c)) : ∀ p, P p := fun p => h p.1.1 p.1.2 p.2
theorem pr6 {α β γ δ ε ζ : Type} {P : (α × β) × (γ × δ) × (ε × ζ) → Prop} (h : ∀ a b c d e f, P ((a, b), (c, d), (e, f))) : ∀ p, P p := fun p => h p.1.1 p.1.2 p.2.1.1 p.2.1.2 p.2.2.1 p.2.2.2
theorem ex1E {α β : Type} {v : α} {f : β → α} {G : α → Prop} (h : ∃ t, v = f t) (k : ∀ t, G (f t)) : G v := by obtain ⟨t, rfl⟩ := h; exact k t
theorem ex2E {α β γ : Type} {v : α} {P : γ → β → Prop} {f : γ → β → α} {G : α → Prop} (h : ∃ c t, P c t ∧ v = f c t) (k : ∀ c t, P c t → G (f c t)) : G v := by obtain ⟨c, t, p, rfl⟩ := h; exact k c t p
theorem hideG {P : Prop} (h : let G := P; G) : P := h
theorem ile {a b c : Int} (h : b ≤ c) (k : a ≤ b) : a ≤ c := Int.le_trans k h
theorem ilt {a b c : Int} (h : b ≤ c) (k : a < b) : a < c := Int.lt_of_lt_of_le k h
theorem lsu {a b : Nat} (h : a < b) : a < b + 1 := Nat.lt_succ_of_lt h
theorem an0 {a b : Nat} { Z : Prop} (h : a < b ∧ Z) : a < b := h.1
theorem an1 {a b : Nat} {P Z : Prop} (h : P ∧ a < b ∧ Z) : a < b := h.2.1
theorem ae1 {a b : Nat} {P : Prop} (h : P ∧ a < b) : a < b := h.2
theorem an2 {a b : Nat} {P Q Z : Prop} (h : P ∧ Q ∧ a < b ∧ Z) : a < b := h.2.2.1
theorem ae2 {a b : Nat} {P Q : Prop} (h : P ∧ Q ∧ a < b) : a < b := h.2.2
theorem an3 {a b : Nat} {P Q R Z : Prop} (h : P ∧ Q ∧ R ∧ a < b ∧ Z) : a < b := h.2.2.2.1
theorem ae3 {a b : Nat} {P Q R : Prop} (h : P ∧ Q ∧ R ∧ a < b) : a < b := h.2.2.2
theorem an4 {a b : Nat} {P Q R S Z : Prop} (h : P ∧ Q ∧ R ∧ S ∧ a < b ∧ Z) : a < b := h.2.2.2.2.1
theorem ae4 {a b : Nat} {P Q R S : Prop} (h : P ∧ Q ∧ R ∧ S ∧ a < b) : a < b := h.2.2.2.2
theorem an5 {a b : Nat} {P Q R S T Z : Prop} (h : P ∧ Q ∧ R ∧ S ∧ T ∧ a < b ∧ Z) : a < b := h.2.2.2.2.2.1
theorem ae5 {a b : Nat} {P Q R S T : Prop} (h : P ∧ Q ∧ R ∧ S ∧ T ∧ a < b) : a < b := h.2.2.2.2.2
theorem an6 {a b : Nat} {P Q R S T U Z : Prop} (h : P ∧ Q ∧ R ∧ S ∧ T ∧ U ∧ a < b ∧ Z) : a < b := h.2.2.2.2.2.2.1
theorem ae6 {a b : Nat} {P Q R S T U : Prop} (h : P ∧ Q ∧ R ∧ S ∧ T ∧ U ∧ a < b) : a < b := h.2.2.2.2.2.2
theorem an7 {a b : Nat} {P Q R S T U V Z : Prop} (h : P ∧ Q ∧ R ∧ S ∧ T ∧ U ∧ V ∧ a < b ∧ Z) : a < b := h.2.2.2.2.2.2.2.1
theorem ae7 {a b : Nat} {P Q R S T U V : Prop} (h : P ∧ Q ∧ R ∧ S ∧ T ∧ U ∧ V ∧ a < b) : a < b := h.2.2.2.2.2.2.2
theorem an8 {a b : Nat} {P Q R S T U V W Z : Prop} (h : P ∧ Q ∧ R ∧ S ∧ T ∧ U ∧ V ∧ W ∧ a < b ∧ Z) : a < b := h.2.2.2.2.2.2.2.2.1
theorem ae8 {a b : Nat} {P Q R S T U V W : Prop} (h : P ∧ Q ∧ R ∧ S ∧ T ∧ U ∧ V ∧ W ∧ a < b) : a < b := h.2.2.2.2.2.2.2.2
theorem tl2 {α : Type} {x a b : α} {l : List α} (hx : x ∈ l) : x ∈ a :: b :: l := List.Mem.tail _ (List.Mem.tail _ hx)
theorem tl3 {α : Type} {x a b c : α} {l : List α} (hx : x ∈ l) : x ∈ a :: b :: c :: l := List.Mem.tail _ (List.Mem.tail _ (List.Mem.tail _ hx))
theorem tl4 {α : Type} {x a b c d : α} {l : List α} (hx : x ∈ l) : x ∈ a :: b :: c :: d :: l := List.Mem.tail _ (List.Mem.tail _ (List.Mem.tail _ (List.Mem.tail _ hx)))
theorem tl5 {α : Type} {x a b c d e : α} {l : List α} (hx : x ∈ l) : x ∈ a :: b :: c :: d :: e :: l := List.Mem.tail _ (List.Mem.tail _ (List.Mem.tail _ (List.Mem.tail _ (List.Mem.tail _ hx))))
theorem tl6 {α : Type} {x a b c d e f : α} {l : List α} (hx : x ∈ l) : x ∈ a :: b :: c :: d :: e :: f :: l := List.Mem.tail _ (List.Mem.tail _ (List.Mem.tail _ (List.Mem.tail _ (List.Mem.tail _ (List.Mem.tail _ hx)))))
theorem tl7 {α : Type} {x a b c d e f g : α} {l : List α} (hx : x ∈ l) : x ∈ a :: b :: c :: d :: e :: f :: g :: l := List.Mem.tail _ (List.Mem.tail _ (List.Mem.tail _ (List.Mem.tail _ (List.Mem.tail _ (List.Mem.tail _ (List.Mem.tail _ hx))))))
theorem tl8 {α : Type} {x a b c d e f g h : α} {l : List α} (hx : x ∈ l) : x ∈ a :: b :: c :: d :: e :: f :: g :: h :: l := List.Mem.tail _ (List.Mem.tail _ (List.Mem.tail _ (List.Mem.tail _ (List.Mem.tail _ (List.Mem.tail _ (List.Mem.tail _ (List.Mem.tail _ hx)))))))
theorem tl9 {α : Type} {x a b c d e f g h i : α} {l : List α} (hx : x ∈ l) : x ∈ a :: b :: c :: d :: e :: f :: g :: h :: i :: l := List.Mem.tail _ (List.Mem.tail _ (List.Mem.tail _ (List.Mem.tail _ (List.Mem.tail _ (List.Mem.tail _ (List.Mem.tail _ (List.Mem.tail _ (List.Mem.tail _ hx))))))))
theorem tl10 {α : Type} {x a b c d e f g h i j : α} {l : List α} (hx : x ∈ l) : x ∈ a :: b :: c :: d :: e :: f :: g :: h :: i :: j :: l := List.Mem.tail _ (List.Mem.tail _ (List.Mem.tail _ (List.Mem.tail _ (List.Mem.tail _ (List.Mem.tail _ (List.Mem.tail _ (List.Mem.tail _ (List.Mem.tail _ (List.Mem.tail _ hx)))))))))
end Mine
end
section
open PySem PySem.W PyProof.Rows PySem.Calls
namespace Mine
section
variable (M : Model) (A : Around) (env : Env) (E : Value → Shared → Prop)
@[reducible] noncomputable def KThen (rest : List Stmt) (Q : Flow → Shared → Prop) : Flow → Shared → Prop :=
  fun f s' => match f with | .next => wpAny M A (execs rest env) Q E s' | f => Q f s'
@[reducible] noncomputable def KNext (Q : Flow → Shared → Prop) : Unit → Shared → Prop := fun _ => Q .next
@[reducible] noncomputable def KSto (x : Str) (Q : Flow → Shared → Prop) : Value → Shared → Prop := fun v s => wpAny M A (storeName env x v) (KNext Q) E s
@[reducible] noncomputable def KRet (Q : Flow → Shared → Prop) : Value → Shared → Prop := fun v => Q (.ret v)
@[reducible] noncomputable def KCons (v : Value) (Q : List Value → Shared → Prop) : List Value → Shared → Prop := fun vs s => Q (v :: vs) s
@[reducible] noncomputable def KArg (pos : Pos) (rest : List PySem.Expr) (Q : List Value → Shared → Prop) : Value → Shared → Prop :=
  fun v s => wpAny M A (spliced (backTo pos (starEach rest env))) (KCons v Q) E s
@[reducible] noncomputable def KBin2 (op : Operator) (a : Value) (Q : Value → Shared → Prop) : Value → Shared → Prop := fun b s => wpAny M A (binaryOp op a b) Q E s
@[reducible] noncomputable def KBin (op : Operator) (r : PySem.Expr) (Q : Value → Shared → Prop) : Value → Shared → Prop := fun a s => wpAny M A (eval r env) (KBin2 M A E op a Q) E s
@[reducible] noncomputable def KTru (Q : Bool → Shared → Prop) : Value → Shared → Prop := fun c s => wpAny M A (truthy c) Q E s
@[reducible] noncomputable def KCmp2 (op : CmpOp) (a : Value) (Q : Value → Shared → Prop) : Value → Shared → Prop := fun b s => wpAny M A (compareOp op a b) Q E s
@[reducible] noncomputable def KCmp (op : CmpOp) (r : PySem.Expr) (Q : Value → Shared → Prop) : Value → Shared → Prop := fun a s => wpAny M A (eval r env) (KCmp2 M A E op a Q) E s
@[reducible] noncomputable def KIf (body orelse : List Stmt) (Q : Flow → Shared → Prop) : Bool → Shared → Prop :=
  fun b s => if b = true then wpAny M A (execs body env) Q E s else wpAny M A (execs orelse env) Q E s
@[reducible] noncomputable def KIfE (body orelse : PySem.Expr) (Q : Value → Shared → Prop) : Bool → Shared → Prop :=
  fun b s => if b = true then wpAny M A (eval body env) Q E s else wpAny M A (eval orelse env) Q E s
@[reducible] noncomputable def KSub2 (value slice : PySem.Expr) (o : Value) (Q : Value → Shared → Prop) : Value → Shared → Prop := fun i s => wpAny M A (subscriptTail value slice o i) Q E s
@[reducible] noncomputable def KSub (value slice : PySem.Expr) (Q : Value → Shared → Prop) : Value → Shared → Prop := fun o s => wpAny M A (eval slice env) (KSub2 M A E value slice o Q) E s
@[reducible] noncomputable def KList (Q : Value → Shared → Prop) : List Value → Shared → Prop := fun vs s => wpAny M A (newList vs) Q E s
@[reducible] noncomputable def KTup (Q : Value → Shared → Prop) : List Value → Shared → Prop := fun vs s => wpAny M A (newTuple vs) Q E s
@[reducible] noncomputable def KFun (pos : Pos) (args : List PySem.Expr) (Q : Value → Shared → Prop) : Value → Shared → Prop :=
  fun f s => wpAny M A (callWith pos f [] (backTo pos (starEach args env)) []) Q E s
@[reducible] noncomputable def KCall (K : Frag) (f : Value) (first : List Value) (Q : Value → Shared → Prop) : List Value → Shared → Prop :=
  fun vs s => K.In s.heap ∧ wpAny M A (call f (first ++ vs)) Q E s
@[reducible] noncomputable def KBi (id : String) (Q : Value → Shared → Prop) : List Value → Shared → Prop := fun vs s => wpAny M A (call (.builtin id) vs) Q E s
@[reducible] noncomputable def KAnd (rest : List PySem.Expr) (pos : Pos) (whole : Sem Value) (Q : Bool → Shared → Prop) : Bool → Shared → Prop :=
  fun c s' => if c = true then wpAny M A (isTrue (PySem.Expr.BoolOp .And rest pos) env whole) Q E s' else Q false s'
@[reducible] noncomputable def KOr (rest : List PySem.Expr) (pos : Pos) (whole : Sem Value) (Q : Bool → Shared → Prop) : Bool → Shared → Prop :=
  fun c s' => if c = true then Q true s' else wpAny M A (isTrue (PySem.Expr.BoolOp .Or rest pos) env whole) Q E s'
end
section
variable {M : Model} {A : Around} {E : Value → Shared → Prop} {s : Shared} {env : Env}
theorem execs_consF {st : Stmt} {rest : List Stmt} {Q : Flow → Shared → Prop} (h : wpAny M A (exec st env) (KThen M A env E rest Q) E s) : wpAny M A (execs (st :: rest) env) Q E s := wpAny_execs_cons h
theorem Assign_NameF {x : Str} {pos' pos : Pos} {value : PySem.Expr} {Q : Flow → Shared → Prop} (h : wpAny M A (eval value env) (KSto M A env E x Q) E s)
    (hs : swapsWith value (some (PySem.Expr.Name x pos')) pos.line env = pure false := by rfl) : wpAny M A (exec (Stmt.Assign [PySem.Expr.Name x pos'] value pos) env) Q E s := wpAny_Assign_Name h hs
theorem Return_someF {e : PySem.Expr} {pos : Pos} {Q : Flow → Shared → Prop} (h : wpAny M A (eval e env) (KRet Q) E s) : wpAny M A (exec (Stmt.Return (some e) pos) env) Q E s := wpAny_Return_some h
theorem args_consF {e : PySem.Expr} {rest : List PySem.Expr} {pos : Pos} {Q : List Value → Shared → Prop} (h : wpAny M A (eval e env) (KArg M A env E pos rest Q) E s)
    (he : starEach (e :: rest) env = (false, eval e env) :: starEach rest env := by rfl) : wpAny M A (spliced (backTo pos (starEach (e :: rest) env))) Q E s := args_cons h he
theorem BinOpF {l r : PySem.Expr} {op : Operator} {pos : Pos} {Q : Value → Shared → Prop} (h : wpAny M A (eval l env) (KBin M A env E op r Q) E s) : wpAny M A (eval (l.BinOp op r pos) env) Q E s := wpAny_BinOp h
theorem isTrue_CompareF {l r : PySem.Expr} {op : CmpOp} {pos : Pos} {whole : Sem Value} {Q : Bool → Shared → Prop} (h : wpAny M A (eval l env) (KCmp M A env E op r (KTru M A E Q)) E s)
    (hm : behindInMarks op r = false := by rfl) : wpAny M A (isTrue (l.Compare [op] [r] pos) env whole) Q E s := wpAny_isTrue_Compare1 h hm
theorem CompareF {l r : PySem.Expr} {op : CmpOp} {pos : Pos} {Q : Value → Shared → Prop} (h : wpAny M A (eval l env) (KCmp M A env E op r Q) E s)
    (hm : behindInMarks op r = false := by rfl) : wpAny M A (eval (l.Compare [op] [r] pos) env) Q E s := wpAny_Compare1 h hm
theorem IfF {test : PySem.Expr} {body orelse : List Stmt} {pos : Pos} {Q : Flow → Shared → Prop} (h : wpAny M A (isTrue test env (eval test env)) (KIf M A env E body orelse Q) E s) : wpAny M A (exec (Stmt.If test body orelse pos) env) Q E s := wpAny_If h
theorem IfExpF {test body orelse : PySem.Expr} {pos : Pos} {Q : Value → Shared → Prop} (h : wpAny M A (isTrue test env (eval test env)) (KIfE M A env E body orelse Q) E s) : wpAny M A (eval (test.IfExp body orelse pos) env) Q E s := IfExp_ h
theorem SubscriptF {value slice : PySem.Expr} {pos : Pos} {Q : Value → Shared → Prop} (h : wpAny M A (eval value env) (KSub M A env E value slice Q) E s) : wpAny M A (eval (value.Subscript slice pos) env) Q E s := Subscript_ h
theorem ListF {elts : List PySem.Expr} {pos : Pos} {Q : Value → Shared → Prop} (h : wpAny M A (spliced (backTo pos (starEach elts env))) (KList M A E Q) E s) : wpAny M A (eval (PySem.Expr.List elts pos) env) Q E s := List_ h
theorem TupleF {elts : List PySem.Expr} {k : Nat} {pos : Pos} {Q : Value → Shared → Prop} (h : wpAny M A (spliced (backTo pos (starEach elts env))) (KTup M A E Q) E s) : wpAny M A (eval (PySem.Expr.Tuple elts k pos) env) Q E s := Tuple_ h
theorem CallF {func : PySem.Expr} {args : List PySem.Expr} {pos : Pos} {Q : Value → Shared → Prop} (h : wpAny M A (eval func env) (KFun M A env E pos args Q) E s) (he : eval (func.Call args [] pos) env = (do
      let f ← eval func env
      callWith pos f [] (backTo pos (starEach args env)) (backToKw pos (keywordEach [] env))) := by rfl) : wpAny M A (eval (func.Call args [] pos) env) Q E s := Call_ h he
theorem callWith_KF {K : Frag} {pos : Pos} {f : Value} {first : List Value} {Q : Value → Shared → Prop} {h₀ : Heap} {e : PySem.Expr} {rest : List PySem.Expr} (X : K.In h₀) (hk : keepIn K f = true)
    (h : wpAny M A (spliced (backTo pos (starEach (e :: rest) env))) (KCall M A E K f first Q) E s) (h1 : starEach (e :: rest) env = (false, eval e env) :: starEach rest env := by rfl)
    (h2 : ((backTo pos (starEach rest env)).any fun x => x.fst) = false := by rfl) : wpAny M A (callWith pos f first (backTo pos (starEach (e :: rest) env)) []) Q E s := callWith_K X hk h h1 h2
theorem callWith_biF {pos : Pos} {id : String} {e : PySem.Expr} {rest : List PySem.Expr} {Q : Value → Shared → Prop} (h : wpAny M A (spliced (backTo pos (starEach (e :: rest) env))) (KBi M A E id Q) E s)
    (h1 : starEach (e :: rest) env = (false, eval e env) :: starEach rest env := by rfl) (h2 : ((backTo pos (starEach rest env)).any fun x => x.fst) = false := by rfl) : wpAny M A (callWith pos (.builtin id) [] (backTo pos (starEach (e :: rest) env)) []) Q E s := PyProof.Rows.callWith_builtin1 h h1 h2
theorem isTrue_andF {x : PySem.Expr} {rest : List PySem.Expr} {pos : Pos} {whole : Sem Value} {Q : Bool → Shared → Prop} (h : wpAny M A (isTrue x env (eval x env)) (KAnd M A env E rest pos whole Q) E s) : wpAny M A (isTrue (PySem.Expr.BoolOp .And (x :: rest) pos) env whole) Q E s := isTrue_and h
theorem isTrue_orF {x : PySem.Expr} {rest : List PySem.Expr} {pos : Pos} {whole : Sem Value} {Q : Bool → Shared → Prop} (h : wpAny M A (isTrue x env (eval x env)) (KOr M A env E rest pos whole Q) E s) : wpAny M A (isTrue (PySem.Expr.BoolOp .Or (x :: rest) pos) env whole) Q E s := isTrue_or h
end
noncomputable def Hid {α : Type} (Q Q' : α → Shared → Prop) : Prop := ∀ a s, Q a s → Q' a s
theorem Hid.at {α : Type} {Q Q' : α → Shared → Prop} (h : Hid Q Q') {a : α} {s : Shared} (hq : Q a s) : Q' a s := h a s hq
theorem hideQ {M : Model} {A : Around} {α : Type} {t : Sem α} {Q : α → Shared → Prop} {E : Value → Shared → Prop} {s : Shared}
    (h : ∀ (Q' : α → Shared → Prop) (E' : Value → Shared → Prop), Hid Q Q' → Hid E E' → wpAny M A t Q' E' s) : wpAny M A t Q E s :=
  h Q E (fun _ _ h => h) (fun _ _ h => h)
theorem hideP {M : Model} {A : Around} {env : Env} {α : Type} {t : Sem α} {Q : α → Shared → Prop} {E : Value → Shared → Prop} {s : Shared}
    (hp : PassesOwn M A env E) (h : ∀ (Q' : α → Shared → Prop) (E' : Value → Shared → Prop), Hid Q Q' → Hid E E' → PassesOwn M A env E' → wpAny M A t Q' E' s) : wpAny M A t Q E s :=
  h Q E (fun _ _ h => h) (fun _ _ h => h) hp
theorem hideR {M : Model} {A : Around} {α : Type} {t : Sem α} {Q : α → Shared → Prop} {E : Value → Shared → Prop} {s : Shared}
    (h : ∀ (Q' : α → Shared → Prop), Hid Q Q' → wpAny M A t Q' E s) : wpAny M A t Q E s :=
  h Q (fun _ _ h => h)
theorem foldA {M : Model} {A : Around} {α : Type} {t : Sem α} {Q : α → Shared → Prop} {E : Value → Shared → Prop} {s : Shared}
    (h : let A' := A; wpAny M A' t Q E s) : wpAny M A t Q E s := h
theorem toks_any {M : Model} {A : Around} {α : Type} {t : Sem α} {Q : α → Shared → Prop} {E : Value → Shared → Prop} {h : Heap} {s : Shared} {k : Nat}
    (H : ∀ k, wpAny M A t Q E { s with heap := h, toks := k }) : wpAny M A t Q E { s with heap := h, toks := k } := H k
noncomputable def okN (k : NameKind) (cs : Scope) (x : Str) : Bool := decide (cs.kind = .function) && decide (cs.names.lookup x = some k) && !(x == Str.ofString "__debug__")
theorem okN_kind {k : NameKind} {cs : Scope} {x : Str} (h : okN k cs x = true) : cs.kind = .function := by
  simp only [okN, Bool.and_eq_true, decide_eq_true_eq] at h; exact h.1.1
theorem okN_look {k : NameKind} {cs : Scope} {x : Str} (h : okN k cs x = true) : cs.names.lookup x = some k := by
  simp only [okN, Bool.and_eq_true, decide_eq_true_eq] at h; exact h.1.2
theorem okN_dbg {k : NameKind} {cs : Scope} {x : Str} (h : okN k cs x = true) : (x == Str.ofString "__debug__") = false := by
  simp only [okN, Bool.and_eq_true] at h; simpa using h.2
@[reducible] noncomputable def upd (m : Str → Option Value) (x : Str) (v : Value) : Str → Option Value := fun y => if y = x then some v else m y
theorem upd_hit {m : Str → Option Value} {x : Str} {v : Value} : upd m x v x = some v := if_pos rfl
theorem upd_miss {m : Str → Option Value} {x y : Str} {v w : Value} (h : decide (y = x) = false) (e : m y = some w) : upd m x v y = some w := (if_neg (of_decide_eq_false h)).trans e
section
variable {M : Model} {A : Around} {E : Value → Shared → Prop} {s : Shared} {K : Frag} {h₀ : Heap} {L a : Addr} {m mg mb : Str → Option Value} {cn : Str} {cs : Scope} {ccd : Value} {cl : List (Str × Addr)} {p : Program} {loose : List Str} {x : Str} {pos : Pos} {v : Value} {Q : Value → Shared → Prop} {news : List (Addr × Obj)}
theorem nameX_LU (ok : okN .local cs x = true) (F : Fr h₀ L s.heap m) (hv : m x = some v) (h : Q v s) : wpAny M A (eval (.Name x pos) (envX cn cs L a ccd cl)) Q E s :=
  nameX_L F hv h (okN_kind ok) (okN_look ok) (okN_dbg ok)
theorem nameX_KU (ok : okN .globalImplicit cs x = true) (F : Fr h₀ L s.heap m) (X : K.In h₀) (T : TopRead p loose mg mb h₀) (hn : nsIn K mainGlobals x = some (some v)) (h : Q v s) : wpAny M A (eval (.Name x pos) (envX cn cs L a ccd cl)) Q E s :=
  nameX_K F X T hn h (okN_kind ok) (okN_look ok) (okN_dbg ok)
theorem nameX_BU (ok : okN .globalImplicit cs x = true) (F : Fr h₀ L s.heap m) (X : K.In h₀) (T : TopRead p loose mg mb h₀) (hn : nsIn K mainGlobals x = some none) (hb : bootBuiltins x = some v) (hx : x ≠ Str.ofString "__name__") (h : Q v s) :
    wpAny M A (eval (.Name x pos) (envX cn cs L a ccd cl)) Q E s := nameX_B F X T hn hb hx h (okN_kind ok) (okN_look ok) (okN_dbg ok)
theorem nameX_CU {c : Addr} {o : Obj} (ok : okN .cell cs x = true) (N : News h₀ L s.heap news) (hc : List.lookup x cl = some c) (hm : (c, o) ∈ news) (hd : o.data = Data.cell (some v)) (h : Q v s) :
    wpAny M A (eval (.Name x pos) (envX cn cs L a ccd cl)) Q E s := nameX_C N hc hm hd h (okN_kind ok) (okN_look ok) (okN_dbg ok)
theorem storeX_LU {Q : Unit → Shared → Prop} (ok : okN .local cs x = true) (F : Fr h₀ L s.heap m) (N : News h₀ L s.heap news) (h : ∀ h', Fr h₀ L h' (upd m x v) → News h₀ L h' news → Q () { s with heap := h', toks := s.toks + 1 }) :
    wpAny M A (storeName (envX cn cs L a ccd cl) x v) Q E s := storeX_L F N h (okN_kind ok) (okN_look ok)
end
theorem trim3 {g h : Heap} {L : Addr} {l : List (Addr × Obj)} {a b c : Addr × Obj} (N : News g L h l) (ha : a ∈ l) (hb : b ∈ l) (hc : c ∈ l) : News g L h [a, b, c] := fun p hp => by
  simp only [List.mem_cons, List.not_mem_nil, or_false] at hp
  rcases hp with rfl | rfl | rfl
  · exact N _ ha
  · exact N _ hb
  · exact N _ hc
theorem trim2 {g h : Heap} {L : Addr} {l : List (Addr × Obj)} {b c : Addr × Obj} (N : News g L h l) (hb : b ∈ l) (hc : c ∈ l) : News g L h [b, c] := fun p hp => by
  simp only [List.mem_cons, List.not_mem_nil, or_false] at hp
  rcases hp with rfl | rfl
  · exact N _ hb
  · exact N _ hc
end Mine
end
section
open PySem PySem.W PyProof.Rows PySem.Calls
namespace Mine
section
variable {M : Model} {A : Around} {α : Type} {t : Sem α} {Q : α → Shared → Prop} {E : Value → Shared → Prop} {s : Shared} {h₀ h : Heap} {L : Addr} {m : Str → Option Value} {news : List (Addr × Obj)}
theorem foldSt (F : Fr h₀ L h m) (N : News h₀ L h news)
    (H : let s' := s; let m' := m; let n' := news; Fr h₀ L h m' → News h₀ L h n' → wpAny M A t Q E s') : wpAny M A t Q E s := H F N
theorem foldStA (F : Fr h₀ L h m) (N : News h₀ L h news)
    (H : let s' := s; let m' := m; let n' := news; let A' := A; Fr h₀ L h m' → News h₀ L h n' → wpAny M A' t Q E s') : wpAny M A t Q E s := H F N
theorem foldStB {body : List Stmt} {env : Env} {Q : Flow → Shared → Prop} (F : Fr h₀ L h m) (N : News h₀ L h news)
    (H : let s' := s; let m' := m; let n' := news; let A' := A; let env' := env; Fr h₀ L h m' → News h₀ L h n' → wpAny M A' (execs body env') Q E s') : wpAny M A (execs body env) Q E s := H F N
theorem foldStC {body : List Stmt} {env : Env} {Q : Flow → Shared → Prop}
    (H : let s' := s; let A' := A; let env' := env; wpAny M A' (execs body env') Q E s') : wpAny M A (execs body env) Q E s := H
theorem foldStD {body : List Stmt} {env : Env} {Q : Flow → Shared → Prop} (N : News h₀ L h news)
    (H : let s' := s; let n' := news; let A' := A; let env' := env; News h₀ L h n' → wpAny M A' (execs body env') Q E s') : wpAny M A (execs body env) Q E s := H N
theorem execsX {st : Stmt} {rest : List Stmt} {env : Env} {Q : Flow → Shared → Prop} (F : Fr h₀ L h m) (N : News h₀ L h news)
    (H : let s' := s; let m' := m; let n' := news; let A' := A; let env' := env; let q := KThen M A' env' E rest Q; Fr h₀ L h m' → News h₀ L h n' → wpAny M A' (exec st env') q E s') : wpAny M A (execs (st :: rest) env) Q E s := execs_consF (H F N)
theorem execsE {st : Stmt} {rest : List Stmt} {env : Env} {Q : Flow → Shared → Prop} (F : Fr h₀ L h m) (N : News h₀ L h news)
    (H : let s' := s; let m' := m; let n' := news; let A' := A; let env' := env; let E' := E; let q := KThen M A' env' E' rest Q; Fr h₀ L h m' → News h₀ L h n' → wpAny M A' (exec st env') q E' s') : wpAny M A (execs (st :: rest) env) Q E s := execs_consF (H F N)
theorem execsY {st : Stmt} {rest : List Stmt} {env : Env} {Q : Flow → Shared → Prop}
    (H : let s' := s; let A' := A; let env' := env; let q := KThen M A' env' E rest Q; wpAny M A' (exec st env') q E s') : wpAny M A (execs (st :: rest) env) Q E s := execs_consF H
theorem execsF {st : Stmt} {rest : List Stmt} {env : Env} {Q : Flow → Shared → Prop}
    (H : let s' := s; let A' := A; let env' := env; let E' := E; let q := KThen M A' env' E' rest Q; wpAny M A' (exec st env') q E' s') : wpAny M A (execs (st :: rest) env) Q E s := execs_consF H
theorem execsH {st : Stmt} {rest : List Stmt} {env : Env} {Q : Flow → Shared → Prop} (F : Fr h₀ L h m) (N : News h₀ L h news)
    (H : let s' := s; let m' := m; let n' := news; let env' := env; let E' := E; let q := KThen M A env' E' rest Q; Fr h₀ L h m' → News h₀ L h n' → wpAny M A (exec st env') q E' s') : wpAny M A (execs (st :: rest) env) Q E s := execs_consF (H F N)
theorem execsZ {st : Stmt} {rest : List Stmt} {env : Env} {Q : Flow → Shared → Prop} (N : News h₀ L h news)
    (H : let s' := s; let n' := news; let A' := A; let env' := env; let q := KThen M A' env' E rest Q; News h₀ L h n' → wpAny M A' (exec st env') q E s') : wpAny M A (execs (st :: rest) env) Q E s := execs_consF (H N)
theorem execsP {st : Stmt} {rest : List Stmt} {env : Env} {Q : Flow → Shared → Prop} (N : News h₀ L h news)
    (H : let s' := s; let n' := news; let A' := A; let env' := env; let E' := E; let q := KThen M A' env' E' rest Q; News h₀ L h n' → wpAny M A' (exec st env') q E' s') : wpAny M A (execs (st :: rest) env) Q E s := execs_consF (H N)
theorem args_consG {env : Env} {e : PySem.Expr} {rest : List PySem.Expr} {pos : Pos} {Q : List Value → Shared → Prop} (h : let q := KArg M A env E pos rest Q; wpAny M A (eval e env) q E s)
    (he : starEach (e :: rest) env = (false, eval e env) :: starEach rest env := by rfl) : wpAny M A (spliced (backTo pos (starEach (e :: rest) env))) Q E s := args_consF h he
theorem CallG {env : Env} {func : PySem.Expr} {args : List PySem.Expr} {pos : Pos} {Q : Value → Shared → Prop} (h : let q := KFun M A env E pos args Q; wpAny M A (eval func env) q E s) (he : eval (func.Call args [] pos) env = (do
      let f ← eval func env
      callWith pos f [] (backTo pos (starEach args env)) (backToKw pos (keywordEach [] env))) := by rfl) : wpAny M A (eval (func.Call args [] pos) env) Q E s := CallF h he
theorem BinOpG {env : Env} {l r : PySem.Expr} {op : Operator} {pos : Pos} {Q : Value → Shared → Prop} (h : let q := KBin M A env E op r Q; wpAny M A (eval l env) q E s) : wpAny M A (eval (l.BinOp op r pos) env) Q E s := BinOpF h
theorem CompareG {env : Env} {l r : PySem.Expr} {op : CmpOp} {pos : Pos} {whole : Sem Value} {Q : Bool → Shared → Prop} (h : let q := KCmp M A env E op r (KTru M A E Q); wpAny M A (eval l env) q E s)
    (hm : behindInMarks op r = false := by rfl) : wpAny M A (isTrue (l.Compare [op] [r] pos) env whole) Q E s := isTrue_CompareF h hm
theorem foldS1 (H : let s' := s; wpAny M A t Q E s') : wpAny M A t Q E s := H
theorem foldSN (N : News h₀ L h news) (H : let s' := s; let n' := news; News h₀ L h n' → wpAny M A t Q E s') : wpAny M A t Q E s := H N
theorem foldSM (F : Fr h₀ L h m) (H : let s' := s; let m' := m; Fr h₀ L h m' → wpAny M A t Q E s') : wpAny M A t Q E s := H F
theorem foldQ (H : let Q' := Q; wpAny M A t Q' E s) : wpAny M A t Q E s := H
theorem foldE (H : let E' := E; wpAny M A t Q E' s) : wpAny M A t Q E s := H
end
end Mine
end
section
open PySem PySem.W PyProof.Rows PySem.Calls
namespace Mine
noncomputable def noSt : List PySem.Expr → Bool
  | [] => true
  | .Starred _ _ :: _ => false
  | _ :: r => noSt r
theorem noSt_one {e : PySem.Expr} {r : List PySem.Expr} {env : Env} (h : noSt (e :: r) = true) : starEach (e :: r) env = (false, eval e env) :: starEach r env ∧ noSt r = true := by
  cases e <;> first | exact ⟨rfl, h⟩ | cases h
theorem noSt_all {pos : Pos} {env : Env} : ∀ {r : List PySem.Expr}, noSt r = true → ((backTo pos (starEach r env)).any fun x => x.fst) = false
  | [], _ => rfl
  | e :: r, h => by
    obtain ⟨h1, h2⟩ := noSt_one (env := env) h
    rw [h1]
    show (false || ((backTo pos (starEach r env)).any fun x => x.fst)) = false
    rw [noSt_all h2]; rfl
inductive GI where
  | z | l | a | s | u | p | r | k | b | i | t | n1 | n2 | n3 | n4 | b1 | b2 | l1 | l2 | l3 | t1 | t2 | t3
section
variable (M : Model) (A : Around) (env : Env) (L : Addr) (cs : Scope) (K : Frag) (mg mb : Str → Option Value) (p : Program) (loose : List Str) (mean : ExcName → Option Value)
@[reducible] noncomputable def GPr : GI → Prop
  | .z => ∀ {E : Value → Shared → Prop} {s : Shared} {b : List Stmt} {Q : Flow → Shared → Prop}, wpAny M A (execs b env) Q E s → wpAny M A (execs b env) Q E s
  | .l => ∀ {E : Value → Shared → Prop} {h₀ : Heap} {m : Str → Option Value} {s : Shared} {x : Str} {pos : Pos} {v : Value} {Q : Value → Shared → Prop}, Fr h₀ L s.heap m → okN .local cs x = true → m x = some v → Q v s → wpAny M A (eval (.Name x pos) env) Q E s
  | .a => ∀ {E : Value → Shared → Prop} {h₀ : Heap} {m : Str → Option Value} {s : Shared} {pos : Pos} {x : Str} {pos' : Pos} {r : List PySem.Expr} {v : Value} {Q : List Value → Shared → Prop}, Fr h₀ L s.heap m → okN .local cs x = true → m x = some v →
      wpAny M A (spliced (backTo pos (starEach r env))) (KCons v Q) E s → wpAny M A (spliced (backTo pos (starEach (.Name x pos' :: r) env))) Q E s
  | .s => ∀ {E : Value → Shared → Prop} {h₀ : Heap} {m : Str → Option Value} {news : List (Addr × Obj)} {s : Shared} {x : Str} {v : Value} {Q : Flow → Shared → Prop}, Fr h₀ L s.heap m → News h₀ L s.heap news → okN .local cs x = true →
      (∀ h', let m' : Str → Option Value := fun y => if y = x then some v else m y; let s' : Shared := { s with heap := h', toks := s.toks + 1 }; Fr h₀ L h' m' → News h₀ L h' news → Q .next s') → wpAny M A (storeName env x v) (KNext Q) E s
  | .u => ∀ {E : Value → Shared → Prop} {h₀ : Heap} {m : Str → Option Value} {news : List (Addr × Obj)} {s : Shared} {x : Str} {v : Value} {Q : Unit → Shared → Prop}, Fr h₀ L s.heap m → News h₀ L s.heap news → okN .local cs x = true →
      (∀ h', let m' : Str → Option Value := fun y => if y = x then some v else m y; let s' : Shared := { s with heap := h', toks := s.toks + 1 }; Fr h₀ L h' m' → News h₀ L h' news → Q () s') → wpAny M A (storeName env x v) Q E s
  | .p => ∀ {E : Value → Shared → Prop} {h₀ : Heap} {m : Str → Option Value} {news : List (Addr × Obj)} {s : Shared} {x : Str} {v : Value} {Q : Flow → Shared → Prop}, Fr h₀ L s.heap m → News h₀ L s.heap news → okN .local cs x = true →
      (∀ h', Fr h₀ L h' (fun y => if y = x then some v else m y) → News h₀ L h' news → Q .next { s with heap := h', toks := s.toks + 1 }) → wpAny M A (storeName env x v) (KNext Q) E s
  | .r => ∀ {E : Value → Shared → Prop} {h₀ : Heap} {m : Str → Option Value} {news : List (Addr × Obj)} {s : Shared} {x : Str} {v : Value} {Q : Unit → Shared → Prop}, Fr h₀ L s.heap m → News h₀ L s.heap news → okN .local cs x = true →
      (∀ h', Fr h₀ L h' (fun y => if y = x then some v else m y) → News h₀ L h' news → Q () { s with heap := h', toks := s.toks + 1 }) → wpAny M A (storeName env x v) Q E s
  | .k => ∀ {E : Value → Shared → Prop} {h₀ : Heap} {m : Str → Option Value} {s : Shared} {pos : Pos} {x : Str} {pos' : Pos} {e : PySem.Expr} {r : List PySem.Expr} {v : Value} {Q : Value → Shared → Prop}, Fr h₀ L s.heap m → K.In h₀ → Top p loose mean mg mb h₀ → okN .globalImplicit cs x = true → nsIn K mainGlobals x = some (some v) → keepIn K v = true → noSt (e :: r) = true →
      wpAny M A (spliced (backTo pos (starEach (e :: r) env))) (KCall M A E K v [] Q) E s → wpAny M A (eval (.Call (.Name x pos') (e :: r) [] pos) env) Q E s
  | .b => ∀ {E : Value → Shared → Prop} {h₀ : Heap} {m : Str → Option Value} {s : Shared} {pos : Pos} {x : Str} {pos' : Pos} {e : PySem.Expr} {r : List PySem.Expr} {id : String} {Q : Value → Shared → Prop}, Fr h₀ L s.heap m → K.In h₀ → Top p loose mean mg mb h₀ → okN .globalImplicit cs x = true → nsIn K mainGlobals x = some none → bootBuiltins x = some (.builtin id) → x ≠ Str.ofString "__name__" → noSt (e :: r) = true →
      wpAny M A (spliced (backTo pos (starEach (e :: r) env))) (KBi M A E id Q) E s → wpAny M A (eval (.Call (.Name x pos') (e :: r) [] pos) env) Q E s
  | .i => ∀ {E : Value → Shared → Prop} {s : Shared} {pos : Pos} {i : Int} {k : Nat} {pos' : Pos} {r : List PySem.Expr} {Q : List Value → Shared → Prop}, 
      wpAny M A (spliced (backTo pos (starEach r env))) (KCons (.int i s.toks) Q) E { s with toks := s.toks + 1 } → wpAny M A (spliced (backTo pos (starEach (.Constant (.int i) k pos' :: r) env))) Q E s
  | .t => ∀ {E : Value → Shared → Prop} {s : Shared} {pos : Pos} {i : Str} {k : Nat} {pos' : Pos} {r : List PySem.Expr} {Q : List Value → Shared → Prop}, 
      wpAny M A (spliced (backTo pos (starEach r env))) (KCons (.str i s.toks) Q) E { s with toks := s.toks + 1 } → wpAny M A (spliced (backTo pos (starEach (.Constant (.str i) k pos' :: r) env))) Q E s
  | .n1 => ∀ {E : Value → Shared → Prop} {h₀ : Heap} {m : Str → Option Value} {s : Shared} {pos : Pos} {f v1 : Value} {Q : Value → Shared → Prop}, Fr h₀ L s.heap m → K.In h₀ → wpAny M A (call f [v1]) Q E s → wpAny M A (spliced (backTo pos (starEach [] env))) (KCons v1 (KCall M A E K f [] Q)) E s
  | .n2 => ∀ {E : Value → Shared → Prop} {h₀ : Heap} {m : Str → Option Value} {s : Shared} {pos : Pos} {f v1 v2 : Value} {Q : Value → Shared → Prop}, Fr h₀ L s.heap m → K.In h₀ → wpAny M A (call f [v1, v2]) Q E s → wpAny M A (spliced (backTo pos (starEach [] env))) (KCons v2 (KCons v1 (KCall M A E K f [] Q))) E s
  | .n3 => ∀ {E : Value → Shared → Prop} {h₀ : Heap} {m : Str → Option Value} {s : Shared} {pos : Pos} {f v1 v2 v3 : Value} {Q : Value → Shared → Prop}, Fr h₀ L s.heap m → K.In h₀ → wpAny M A (call f [v1, v2, v3]) Q E s → wpAny M A (spliced (backTo pos (starEach [] env))) (KCons v3 (KCons v2 (KCons v1 (KCall M A E K f [] Q)))) E s
  | .n4 => ∀ {E : Value → Shared → Prop} {h₀ : Heap} {m : Str → Option Value} {s : Shared} {pos : Pos} {f v1 v2 v3 v4 : Value} {Q : Value → Shared → Prop}, Fr h₀ L s.heap m → K.In h₀ → wpAny M A (call f [v1, v2, v3, v4]) Q E s → wpAny M A (spliced (backTo pos (starEach [] env))) (KCons v4 (KCons v3 (KCons v2 (KCons v1 (KCall M A E K f [] Q))))) E s
  | .b1 => ∀ {E : Value → Shared → Prop} {s : Shared} {pos : Pos} {id : String} {v1 : Value} {Q : Value → Shared → Prop}, 
      wpAny M A (call (.builtin id) [v1]) Q E s → wpAny M A (spliced (backTo pos (starEach [] env))) (KCons v1 (KBi M A E id Q)) E s
  | .b2 => ∀ {E : Value → Shared → Prop} {s : Shared} {pos : Pos} {id : String} {v1 v2 : Value} {Q : Value → Shared → Prop}, 
      wpAny M A (call (.builtin id) [v1, v2]) Q E s → wpAny M A (spliced (backTo pos (starEach [] env))) (KCons v2 (KCons v1 (KBi M A E id Q))) E s
  | .l1 => ∀ {E : Value → Shared → Prop} {s : Shared} {pos : Pos} {v1 : Value} {Q : Value → Shared → Prop}, 
      wpAny M A (newList [v1]) Q E s → wpAny M A (spliced (backTo pos (starEach [] env))) (KCons v1 (KList M A E Q)) E s
  | .l2 => ∀ {E : Value → Shared → Prop} {s : Shared} {pos : Pos} {v1 v2 : Value} {Q : Value → Shared → Prop}, 
      wpAny M A (newList [v1, v2]) Q E s → wpAny M A (spliced (backTo pos (starEach [] env))) (KCons v2 (KCons v1 (KList M A E Q))) E s
  | .l3 => ∀ {E : Value → Shared → Prop} {s : Shared} {pos : Pos} {v1 v2 v3 : Value} {Q : Value → Shared → Prop}, 
      wpAny M A (newList [v1, v2, v3]) Q E s → wpAny M A (spliced (backTo pos (starEach [] env))) (KCons v3 (KCons v2 (KCons v1 (KList M A E Q)))) E s
  | .t1 => ∀ {E : Value → Shared → Prop} {s : Shared} {pos : Pos} {v1 : Value} {Q : Value → Shared → Prop}, 
      wpAny M A (newTuple [v1]) Q E s → wpAny M A (spliced (backTo pos (starEach [] env))) (KCons v1 (KTup M A E Q)) E s
  | .t2 => ∀ {E : Value → Shared → Prop} {s : Shared} {pos : Pos} {v1 v2 : Value} {Q : Value → Shared → Prop}, 
      wpAny M A (newTuple [v1, v2]) Q E s → wpAny M A (spliced (backTo pos (starEach [] env))) (KCons v2 (KCons v1 (KTup M A E Q))) E s
  | .t3 => ∀ {E : Value → Shared → Prop} {s : Shared} {pos : Pos} {v1 v2 v3 : Value} {Q : Value → Shared → Prop}, 
      wpAny M A (newTuple [v1, v2, v3]) Q E s → wpAny M A (spliced (backTo pos (starEach [] env))) (KCons v3 (KCons v2 (KCons v1 (KTup M A E Q)))) E s
@[reducible] noncomputable def GAll : Prop := ∀ j, GPr M A env L cs K mg mb p loose mean j
end
section
variable {M : Model} {A : Around} {env : Env} {L : Addr} {cs : Scope} {K : Frag} {mg mb : Str → Option Value} {p : Program} {loose : List Str} {mean : ExcName → Option Value} {cn : Str} {a : Addr} {ccd : Value} {cl : List (Str × Addr)}
theorem args_in {E : Value → Shared → Prop} {s : Shared} {e : PySem.Expr} {r : List PySem.Expr} {pos : Pos} {Q : List Value → Shared → Prop} (hs : starEach (e :: r) env = (false, eval e env) :: starEach r env)
    (h : wpAny M A (eval e env) (KArg M A env E pos r Q) E s) : wpAny M A (spliced (backTo pos (starEach (e :: r) env))) Q E s := args_consF h hs
theorem allG (he : env = envX cn cs L a ccd cl) : GAll M A env L cs K mg mb p loose mean := by
  subst he
  intro j
  cases j
  case z => intro E s b Q h; exact h
  case l => intro E h₀ m s x pos v Q F ok hv h; exact nameX_LU ok F hv h
  case a => intro E h₀ m s pos x pos' r v Q F ok hv h; exact args_in rfl (nameX_LU ok F hv h)
  case s => intro E h₀ m news s x v Q F N ok h; exact storeX_LU ok F N h
  case u => intro E h₀ m news s x v Q F N ok h; exact storeX_LU ok F N h
  case p => intro E h₀ m news s x v Q F N ok h; exact storeX_LU ok F N h
  case r => intro E h₀ m news s x v Q F N ok h; exact storeX_LU ok F N h
  case k =>
    intro E h₀ m s pos x pos' e r v Q F X T ok hn hk hs h
    exact CallF (nameX_KU ok F X (topRead_of T) hn (callWith_KF X hk h (noSt_one hs).1 (noSt_all (noSt_one (env := default) hs).2)))
  case b =>
    intro E h₀ m s pos x pos' e r id Q F X T ok hn hb hx hs h
    exact CallF (nameX_BU ok F X (topRead_of T) hn hb hx (callWith_biF h (noSt_one hs).1 (noSt_all (noSt_one (env := default) hs).2)))
  case i => intro E s pos i k pos' r Q h; exact args_in rfl (wpAny_Constant_int h)
  case t => intro E s pos i k pos' r Q h; exact args_in rfl (Constant_str h)
  case n1 => intro E h₀ m s pos f v1 Q F X h; exact args_nil ⟨Frag.In.keeps X F.keep, h⟩
  case n2 => intro E h₀ m s pos f v1 v2 Q F X h; exact args_nil ⟨Frag.In.keeps X F.keep, h⟩
  case n3 => intro E h₀ m s pos f v1 v2 v3 Q F X h; exact args_nil ⟨Frag.In.keeps X F.keep, h⟩
  case n4 => intro E h₀ m s pos f v1 v2 v3 v4 Q F X h; exact args_nil ⟨Frag.In.keeps X F.keep, h⟩
  case b1 => intro E s pos id v1 Q h; exact args_nil h
  case b2 => intro E s pos id v1 v2 Q h; exact args_nil h
  case l1 => intro E s pos v1 Q h; exact args_nil h
  case l2 => intro E s pos v1 v2 Q h; exact args_nil h
  case l3 => intro E s pos v1 v2 v3 Q h; exact args_nil h
  case t1 => intro E s pos v1 Q h; exact args_nil h
  case t2 => intro E s pos v1 v2 Q h; exact args_nil h
  case t3 => intro E s pos v1 v2 v3 Q h; exact args_nil h
theorem withG {E : Value → Shared → Prop} {s : Shared} {h₀ : Heap} {b : List Stmt} {Q : Flow → Shared → Prop} (_X : K.In h₀) (_T : Top p loose mean mg mb h₀) (he : env = envX cn cs L a ccd cl)
    (H : let A' := A; let env' := env; let E' := E; GAll M A' env' L cs K mg mb p loose mean → wpAny M A' (execs b env') Q E' s) : wpAny M A (execs b env) Q E s := H (allG he)
section
variable {E : Value → Shared → Prop} {s : Shared} {h₀ h : Heap} {st : Stmt} {rest : List Stmt} {Q : Flow → Shared → Prop} {m : Str → Option Value} {news : List (Addr × Obj)}
theorem execsXg (F : Fr h₀ L h m) (N : News h₀ L h news)
    (H : let s' := s; let m' := m; let n' := news; let q := KThen M A env E rest Q; Fr h₀ L h m' → News h₀ L h n' → wpAny M A (exec st env) q E s') : wpAny M A (execs (st :: rest) env) Q E s := execs_consF (H F N)
theorem execsZg (N : News h₀ L h news)
    (H : let s' := s; let n' := news; let q := KThen M A env E rest Q; News h₀ L h n' → wpAny M A (exec st env) q E s') : wpAny M A (execs (st :: rest) env) Q E s := execs_consF (H N)
theorem execsYg (H : let s' := s; let q := KThen M A env E rest Q; wpAny M A (exec st env) q E s') : wpAny M A (execs (st :: rest) env) Q E s := execs_consF H
end
end
section
variable {prog : Program} {w : World} {A A₀ : Around} {s : Shared} {K : Frag} {L : Addr} {h₀ base : Heap} {m mg mb : Str → Option Value} {news : List (Addr × Obj)} {p : Program} {loose : List Str} {mean : ExcName → Option Value} {env : Env} {outer : List Env}
  {Q E : Value → Shared → Prop} {name qual : Str} {params : Arguments} {body : List Stmt} {scope : Scope} {dV kV doc pm cdv ct oc : Value} {an od : Option Addr} {osl : Array (Option Value)} {f : Addr} {vs : List Value} {binds : List (Str × Value)}
theorem codeG (B : Below A₀ base outer h₀) (F : Fr h₀ L s.heap m) (X₀ : K.In h₀) (N : News h₀ L s.heap news) (T : Top p loose mean mg mb h₀) (hA : A.frames = some (env :: outer)) (hf : env.frame = some L) (hke : env.scope.kind = .function)
    (ho : K.lookup f = some ⟨oc, od, .func (fnOf name qual params body scope dV kV doc pm an cdv ct), osl⟩) (hcd : codeIn K cdv qual = true) (hroom : A.depth < recursionLimit)
    (hbind : BindsTo s (fnOf name qual params body scope dV kV doc pm an cdv ct) ⟨vs, []⟩ binds) (hloc : ∀ y ∈ binds, scope.names.lookup y.1 = some .local)
    (h : ∀ g L' h₁, let env' := envOf qual scope L' f cdv; let A' := A.deeper env'; let E' : Value → Shared → Prop := fun e s' => wpAny (model prog w) A' (leaving env' e) (fun _ => E e) E s'; let m' : Str → Option Value := fun y => binds.reverse.lookup y; let n' := news;
      Fr h₀ L g m → Fr g L' h₁ m' → News g L' h₁ n' → Below A base (env :: outer) g → K.In g → Top p loose mean mg mb g → GAll (model prog w) A' env' L' scope K mg mb p loose mean →
      wpAny (model prog w) A' (execs body env')
        (fun fl s' => LeaveK h₀ L m g (fun r s' => match r with | .ok (.ret v) => Q v s' | .ok _ => False | .error e => E e s') (match fl with | .ret v => v | _ => .none) s') E' { s with heap := h₁, toks := s.toks + binds.length })
    (hco : scope.isCoroutine = false) (hgen : scope.isGenerator = false) (hk : scope.kind = .function)
    (hcell : ∀ x ∈ scope.names, x.2 ≠ .cell) : wpAny (model prog w) A (call (.ref f) vs) Q E s :=
  wpAny_call (code_def B F X₀ N T hA hf hke ho hcd hroom hbind hloc (fun g L' h₁ FG F' N' B' X' T' => h g L' h₁ FG F' N' B' X' T' (allG rfl)) hco hgen hk hcell)
end
end Mine
end
section
open PySem PySem.W PyProof.Rows PySem.Calls
open Sem (wp)
namespace Mine
theorem own_exc_init : classOwn (.type "Exception") "__init__" = pure (some (.builtin "Exception.__init__")) := by kernel_rfl
theorem slot_wd_get : Slot "wrapper_descriptor" "__get__" "wrapper_descriptor.__get__" := .of (owner := "wrapper_descriptor") (n := "__get__") (by rw [typeLookup_type, builtinLookup_eq_fast]; kernel_rfl) (by decide +kernel) (by decide +kernel) (by decide +kernel)
  (by first | exact .inl (by decide +kernel) | exact .inr (by decide +kernel)) (by rw [isSubtype_type]; kernel_rfl)
theorem entry_wd_get : entryFor table "wrapper_descriptor.__get__" = some Builtin.«wrapper_descriptor.__get__» := entryFor_of_tree (by kernel_rfl)
theorem args_wd_get (a b c : Value) : argsOk "wrapper_descriptor.__get__" ⟨[a, b, c], []⟩ := by unfold argsOk; kernel_rfl
theorem typeOf_exc_init : typeOf (.builtin "Exception.__init__") = pure (.type "wrapper_descriptor") := by kernel_rfl
section
variable {prog : Program} {w : World} {A : Around} {E : Value → Shared → Prop} {h : Heap} {g : Array GenState} {d : Drawn} {t : Nat} {os : OsState}
theorem super_ga_init {so x : Addr} {tk : Tok} {ox : Obj} {Q : Fin → Shared → Prop}
    (hso : h.get? so = some { cls := .type "super", dict := none, data := .fields #[.ref 34, .ref x, .ref 34], slots := #[] }) (hno : Looks (model prog w) h (opaqueClassAbove (.ref 34)) none)
    (hC : Looks (model prog w) h (mroOf (.ref 34)) [.ref 34, .type "Exception", .type "BaseException", .type "object"])
    (hx : h.get? x = some ox) (hxc : ox.cls = .ref 34) (hI : Looks (model prog w) h (isSubtype (.ref 34) (.type "Exception")) true)
    (hxC : x ≠ 34) 
    (hq : Q (.done (.ret (.ref h.objs.size))) ⟨h.push { cls := .type "method-wrapper", data := .fields #[.builtin "Exception.__init__", .ref x] }, g, d, t, os⟩) :
    wpAny (model prog w) A (Builtin.«super.__getattribute__» ⟨[.ref so, .str "__init__" tk], []⟩) Q E ⟨h, g, d, t, os⟩ := by
  have hlk := slot_wd_get.lookup
  have hne : (Value.ref x == Value.ref 34) = false := by simp [hxC]
  have hdt : ({ cls := .type "super", dict := none, data := .fields #[.ref 34, .ref x, .ref 34], slots := #[] } : Obj).data = .fields #[.ref 34, .ref x, .ref 34] := rfl
  have f0 : (#[.ref 34, .ref x, .ref 34] : Array Value)[0]? = some (.ref 34) := rfl
  have f1 : (#[.ref 34, .ref x, .ref 34] : Array Value)[1]? = some (.ref x) := rfl
  have f2 : (#[.ref 34, .ref x, .ref 34] : Array Value)[2]? = some (.ref 34) := rfl
  have hcut : (".".intercalate ((String.cutAt "Exception.__init__" '.').dropLast)) = "Exception" := by decide +kernel
  have hn : ((Str.ofString "__init__") == ("__class__" : Str)) = false := by decide
  have hl : (([.ref 34, .type "Exception", .type "BaseException", .type "object"] : List Value).dropWhile (· != .ref 34)).drop 1 = [.type "Exception", .type "BaseException", .type "object"] := by decide
  have ho := own_exc_init
  have hty := typeOf_exc_init
  have hT : ∀ s : Shared, s.TypeIs (.builtin "Exception.__init__") "wrapper_descriptor" := fun s => typeOf_exc_init
  unfold Builtin.«super.__getattribute__»
  repeat (first
    | (with_reducible first | refine PySem.wpAny_pure ?_ | refine PySem.wpAny_bind ?_)
    | ((with_reducible apply PySem.wpAny_ite_false); focus (rfl; done)) | ((with_reducible apply PySem.wpAny_ite_true); focus (rfl; done))
    | ((with_reducible refine' wpAny_field hso hdt ?hf ?_); (case hf => first | exact f0 | exact f1 | exact f2))
    | (with_reducible refine ks_wpAny_notOpaque hno ?_)
    | (with_reducible refine Looks.at hC ?_; rw [hl])
    | (with_reducible refine wpAny_loadPart_at hx ?_)
    | (with_reducible refine Looks.at hI ?_)
    | (with_reducible refine wpAny_call_entry slot_wd_get (hT _) entry_wd_get ?_ (args_wd_get _ _ _))
    | (with_reducible refine ⟨_, rfl, ?_⟩)
    | wp_step
    | (rw [hxc])
    | (rw [hcut])
    | (simp only [hn, hne, Bool.or_false, Bool.false_eq_true, if_false])
    | dsimp only)
  all_goals exact hq
theorem getMethod_super_init {so x : Addr} {ox : Obj} {pl : Sem Bool} {Q : Value × List Value → Shared → Prop}
    (hso : h.get? so = some { cls := .type "super", dict := none, data := .fields #[.ref 34, .ref x, .ref 34], slots := #[] }) (hno : Looks (model prog w) h (opaqueClassAbove (.ref 34)) none)
    (hC : Looks (model prog w) h (mroOf (.ref 34)) [.ref 34, .type "Exception", .type "BaseException", .type "object"])
    (hx : h.get? x = some ox) (hxc : ox.cls = .ref 34) (hI : Looks (model prog w) h (isSubtype (.ref 34) (.type "Exception")) true)
    (hxC : x ≠ 34) 
    (hq : Q (.ref h.objs.size, []) ⟨h.push { cls := .type "method-wrapper", data := .fields #[.builtin "Exception.__init__", .ref x] }, g, d, t + 1, os⟩) :
    wpAny (model prog w) A (getMethod (.ref so) "__init__" pl) Q E ⟨h, g, d, t, os⟩ := by
  have hlk := F.ks_slot_super_ga.lookup
  have hcan := F.ks_canon_super_ga
  have hT : ∀ t', (⟨h, g, d, t', os⟩ : Shared).TypeIs (.ref so) "super" := fun _ => ⟨_, hso, rfl⟩
  unfold getMethod
  refine wpAny_bind (wpAny_specialOf (hT _) hlk ?_)
  show wpAny _ _ (if (Manifest.canonical "super.__getattribute__" != "object.__getattribute__") = true then _ else _) _ _ _
  rw [if_pos hcan]
  unfold getAttr getAttrBy
  refine wpAny_bind (wpAny_bind (wpAny_mkText (wpAny_holding (wpAny_bind (wpAny_typeOf (hT _) (wpAny_bind (wpAny_of_eq hlk ?_)))))))
  show wpAny _ _ (getAttrByItsOwn (.ref so) (.str "__init__" t) (.type "super") (.builtin "super.__getattribute__") true false) _ _ _
  unfold getAttrByItsOwn hookBefore callGetattribute boundAndCalled
  refine wpAny_bind (wpAny_of_eq (show (if onTheHeap (.type "super") then typeLookup (.type "super") "__getattr__" else pure none) = pure none from rfl) ?_)
  refine wpAny_bind (wpAny_attempt (wpAny_holding ?_))
  show wpAny _ _ (bindSpecial (.builtin "super.__getattribute__") (.ref so) >>= _) _ _ _
  refine wpAny_bind (wpAny_of_eq (F.ks_slot_super_ga.bind _) ?_)
  refine wpAny_mono (Q := fun v s' => v = .ref h.objs.size ∧ s' = ⟨h.push { cls := .type "method-wrapper", data := .fields #[.builtin "Exception.__init__", .ref x] }, g, d, t + 1, os⟩) (E := fun _ _ => False)
    (wpAny_call_entry F.ks_slot_super_ga (hT _) F.ks_entry_super_ga (super_ga_init hso hno hC hx hxc hI hxC ⟨_, rfl, rfl, rfl⟩) (F.ks_gaArgs_super _ _)) (fun v s' hv => ?_) fun _ _ z => z.elim
  obtain ⟨rfl, rfl⟩ := hv
  exact wpAny_pure (wpAny_pure hq)
end
end Mine
end
section
open PySem PySem.W PyProof.Rows PySem.Calls
open Sem (wp)
namespace Mine
noncomputable abbrev excCls : Obj := excClassObj "BasicError" "BasicError" 34 33 [.type "Exception"] [.type "Exception", .type "BaseException", .type "object"] true [] [] false none none (some (.ref 15)) none (some (.str "BasicError" 193)) (some (.str "BasicError" 201)) (some (.bool true)) "Exception.__new__"
theorem exc_cls {w : World} {h : Heap} (X : Frag.In (hd.heap_39 w.params) h) : h.get? 34 = some excCls := X 34 _ (by with_unfolding_all rfl)
noncomputable abbrev wrapObj (x : Addr) : Obj := { cls := .type "method-wrapper", data := .fields #[.builtin "Exception.__init__", .ref x] }
section
variable {prog : Program} {w : World} {M : Model} {A : Around} {E : Value → Shared → Prop} {s : Shared} {h : Heap} {g : Array GenState} {d : Drawn} {t : Nat} {os : OsState}
noncomputable def WrapP (q x : Addr) (h : Heap) : Prop := h.get? q = some (wrapObj x)
theorem keeps_W {q x : Addr} (h : Heap) (X : WrapP q x h) : ∃ k, (k = Keeper.frame ∨ k = Keeper.machine ∨ k = Keeper.boundFrame) ∧ Looks M h (keeperOf (.ref q)) k :=
  ⟨.machine, .inr (.inl rfl), (Looks.ld (part := none) X).andThen .now⟩
theorem callWith_W {q x : Addr} {env : Env} {pos : Pos} {first : List Value} {e : Expr} {rest : List Expr} {Q : Value → Shared → Prop} (h : wpAny M A (spliced (backTo pos (starEach (e :: rest) env))) (fun vs s₁ => WrapP q x s₁.heap ∧ wpAny M A (call (.ref q) (first ++ vs)) Q E s₁) E s)
    (he : starEach (e :: rest) env = (false, eval e env) :: starEach rest env := by rfl) (hplain : (backTo pos (starEach rest env)).any (·.1) = false := by rfl) :
    wpAny M A (callWith pos (.ref q) first (backTo pos (starEach (e :: rest) env)) []) Q E s := by
  rw [he] at h ⊢
  exact callWith_of (by show ((false || (backTo pos (starEach rest env)).any (·.1)) || false) = false; rw [hplain]; rfl) keeps_W (evalArgs_plain h)
theorem check_bound_init {x : Addr} {ox : Obj} {c : Value} {Q : Unit → Shared → Prop} {E : Value → Shared → Prop} (hx : h.get? x = some ox) (hxc : ox.cls = .ref 34) (hC : h.get? 34 = some excCls) (hI : Looks M h (isSubtype (.ref 34) (.type "Exception")) true)
   (hQ : Q () ⟨h, g, d, t, os⟩) : wpAny M A (checkBoundCall "Exception.__init__" ⟨[.ref x, c], []⟩) Q E ⟨h, g, d, t, os⟩ := by
  have hr := PySem.F.excBase_Exception.initRow
  have hk := PySem.F.excBase_Exception.initKind
  unfold checkBoundCall
  simp only [hr, hk]
  repeat (first
    | (with_reducible first | refine PySem.wpAny_pure ?_ | refine PySem.wpAny_bind ?_) | ((with_reducible apply PySem.wpAny_ite_false); focus (rfl; done)) | ((with_reducible apply PySem.wpAny_ite_true); focus (rfl; done))
    | (with_reducible refine wpAny_loadPart_at hx ?_)
    | (with_reducible refine Looks.at hI ?_)
    | (with_reducible refine wpAny_load hC ?_)
    | (rw [hxc])
    | wp_step)
  exact hQ
theorem call_wrap {q x tp : Addr} {c : Value} {od : Option Addr} {sl : Array (Option Value)} {Q : Value → Shared → Prop} (hq : h.get? q = some (wrapObj x)) (hx : h.get? x = some { cls := .ref 34, dict := od, data := .fields #[.ref tp, .none, .none, .none, .bool false, .none], slots := sl })
  (hC : h.get? 34 = some excCls) (hI : Looks (model prog w) h (isSubtype (.ref 34) (.type "Exception")) true)
  (hQ : Q .none ⟨(h.push { cls := .type "tuple", data := .seq #[c] }).update x (Obj.mapFields (·.setIfInBounds 0 (.ref h.objs.size))), g, d, t, os⟩) :
   wpAny (model prog w) A (call (.ref q) [c]) Q E ⟨h, g, d, t, os⟩ := by
  refine wpAny_call (codeAny_of_tree ?_)
  show wpAny _ A.in1 (callAny (.ref q) _) _ _ _
  unfold callAny
  refine wpAny_bind (wpAny_load hq ?_)
  refine wpAny_bind ?_
  show wpAny _ _ (checkBoundCall "Exception.__init__" ⟨[.ref x, c], []⟩) _ _ _
  refine check_bound_init hx rfl hC hI ?_
  refine wpAny_pure ⟨Code.quiet_builtin _ (by decide +kernel), codeAny_builtin PySem.F.excBase_Exception.initEntry ?_⟩
  unfold Builtin.«BaseException.__init__»
  repeat wp_step
  all_goals exact hQ
end
end Mine
end
section
open PySem PySem.W PyProof.Rows PySem.Calls
open Sem (wp)
namespace Mine
theorem putName_empty (name : Str) (hsh : Int) (key v : Value) : Obj.putName name hsh key v { cls := .type "dict", data := .dict #[] } = dictOf [⟨hsh, key, v⟩] 1 := by
  have := putName_dict name hsh key v [] 0
  exact this
theorem refuse_exc (self : Value) (C : Addr) : refuseLoop self "__setattr__" [.ref C, .type "Exception", .type "BaseException", .type "object"] = pure () := by
  rw [refuseLoop_ref]
  kernel_rfl
section
variable {prog : Program} {w : World} {A : Around} {s : Shared} {K : Frag} {x C : Addr} {R : Result → Shared → Prop}
theorem exc_store_open {ox : Obj} {od : Option Obj} {name : Str} {tk : Tok} {v : Value} {r : Option Value} {cd : ClassData} (X : K.In s.heap) (I : InstAt s.heap x ox C od) (hc : clsIn K C = some cd) (hm : cd.mro = [.ref C, .type "Exception", .type "BaseException", .type "object"])
    (ht : takerIn K C name = some r)
    (h : ∀ b, wpAny (model prog w) A.in1 (match r with | some a => Builtin.ObjectAttr.setByDescriptor a (.ref x) v | none => Builtin.ObjectAttr.storeInOwnDict (.ref x) (.ref C) (.str name tk) name v b)
      (fun fin s' => match fin with | .done f => R (.ok f) s' | .again c' => c'.quiet = true ∧ codeAny (model prog w) A c' R s') (fun e s' => R (.error e) s') s) :
    codeAny (model prog w) A (.call (.builtin "object.__setattr__") ⟨[.ref x, .str name tk, v], []⟩) R s := by
  have SF := PySem.F.store_object
  have hmro : Looks (model prog w) s.heap (mroOf (.ref C)) cd.mro := (looks_clsIn X hc).andThen .now
  have sub : Looks (model prog w) s.heap (isInstance (.ref x) (.type "object")) true := by
    refine I.type.andThen (looks_mroIn X ?_)
    unfold mroIn
    rw [hc, Option.bind_some, hm]
    rfl
  refine codeAny_call_builtin SF.slot.plain SF.entry (@check_slot (model prog w) _ _ s "object.__setattr__" "object" "__setattr__" (.ref x) [.str name tk, v] [] _ SF.kind SF.split sub (SF.args (.ref x) (.str name tk) v) ?_)
  obtain ⟨attr, ha, hr⟩ := Option.bind_eq_some_iff.mp ht
  have taker : Looks (model prog w) s.heap (Builtin.ObjectAttr.storeTaker? attr) r := by
    cases attr with
    | none => cases hr; exact .now
    | some a =>
      obtain ⟨b, hb, rfl⟩ := Option.map_eq_some_iff.mp hr
      refine (looks_takesIn X hb).andThen ?_
      cases b <;> exact .now
  rw [osa_eq, refuse_eq]
  refine wpAny_bind (wpAny_bind (I.type.here (wpAny_bind (hmro.here ?_))))
  rw [hm, refuse_exc]
  exact wpAny_pure (wpAny_bind (I.type.here (wpAny_bind ((looks_findIn X ha).here (wpAny_bind (taker.here (h _)))))))
end
section
variable {prog : Program} {w : World} {A A₀ : Around} {E : Value → Shared → Prop} {s : Shared} {K : Frag} {x C dx L : Addr} {h₀ : Heap} {m : Str → Option Value} {news news' : List (Addr × Obj)} {ox od : Obj} {name : Str} {v : Value}
theorem set_new {Q : Unit → Shared → Prop} {vs : Array Value} (F : Fr h₀ L s.heap m) (X₀ : K.In h₀) (N : News h₀ L s.heap news) (I : InstAt s.heap x ox C none) (hd : ox.dict = none) (hdat : ox.data = .fields vs)
    (hs : findIn K (.ref C) "__setattr__" = some (some (.builtin "object.__setattr__"))) {cd : ClassData} (hc : clsIn K C = some cd) (hm : cd.mro = [.ref C, .type "Exception", .type "BaseException", .type "object"]) (ht : takerIn K C name = some none) (hd' : cd.hasDict = true)
    (U : Upd x ox { ox with dict := some s.heap.objs.size } news news')
    (h : ∀ h', Fr h₀ L h' m → News h₀ L h' ((s.heap.objs.size, dictOf [⟨PyData.keyHash w.params name, .str name (s.toks + 1), v⟩] 1) :: news') → (∀ p ∈ news', p.1 < s.heap.objs.size) → Q () { s with heap := h', toks := s.toks + 2 }) :
    wpAny (model prog w) A (setAttr (.ref x) name v) Q E s := by
  obtain ⟨oc, odi, oda, osl⟩ := ox
  obtain rfl : oc = .ref C := I.cls
  obtain rfl : odi = none := hd
  obtain rfl : oda = .fields vs := hdat
  have X := X₀.keeps F.keep
  refine set_plain X I hs ?_
  have I1 : InstAt ({ s with toks := s.toks + 1 } : Shared).heap x ⟨.ref C, none, .fields vs, osl⟩ C none := I
  refine exc_store_open (s := { s with toks := s.toks + 1 }) X I1 hc hm ht fun b => ?_
  obtain ⟨pre, post, rfl, rfl, a1, a2⟩ := U.split
  have N0 : News h₀ L (s.heap.push { cls := .type "dict", data := .dict #[] }) ((s.heap.objs.size, { cls := .type "dict", data := .dict #[] }) :: (pre ++ (x, ⟨.ref C, none, .fields vs, osl⟩) :: post)) := N.push F _
  have F0 : Fr h₀ L (s.heap.push { cls := .type "dict", data := .dict #[] }) m := F.push _
  have hlt : ∀ p ∈ (pre ++ (x, ⟨.ref C, none, .fields vs, osl⟩) :: post), p.1 < s.heap.objs.size := fun p hp => Heap.lt_size (N p hp).1
  have hfr : (⟨.ref C, some s.heap.objs.size, .fields vs, osl⟩ : Obj).isFreed = false := rfl
  have hxl : x < s.heap.objs.size := hlt (x, ⟨.ref C, none, .fields vs, osl⟩) (by simp)
  obtain ⟨F1, N1⟩ := news_upd (f := fun o => { o with dict := some s.heap.objs.size }) (pre := (s.heap.objs.size, { cls := .type "dict", data := .dict #[] }) :: pre) (d := x) (o := ⟨.ref C, none, .fields vs, osl⟩) (post := post) F0 N0
    (fun p hp => by
      rcases List.mem_cons.mp hp with rfl | hp
      · exact Nat.ne_of_gt hxl
      · exact a1 p hp) a2 rfl hfr
  obtain ⟨F2, N2⟩ := news_upd (f := Obj.putName name (PyData.keyHash w.params name) (.str name (s.toks + 1)) v) (pre := []) (d := s.heap.objs.size) (o := { cls := .type "dict", data := .dict #[] }) (post := pre ++ (x, ⟨.ref C, some s.heap.objs.size, .fields vs, osl⟩) :: post) F1 N1
    (fun p hp => nomatch hp) (fun p hp => by
      rcases List.mem_append.mp hp with hp | hp
      · exact Nat.ne_of_lt (hlt p (List.mem_append_left _ hp))
      · rcases List.mem_cons.mp hp with rfl | hp
        · exact Nat.ne_of_lt hxl
        · exact Nat.ne_of_lt (hlt p (List.mem_append_right _ (.tail _ hp)))) (putName_empty _ _ _ _) rfl
  have hlt' : ∀ p ∈ (pre ++ (x, ⟨.ref C, some s.heap.objs.size, .fields vs, osl⟩) :: post), p.1 < s.heap.objs.size := fun p hp => by
    rcases List.mem_append.mp hp with hp | hp
    · exact hlt p (List.mem_append_left _ hp)
    · rcases List.mem_cons.mp hp with rfl | hp
      · exact hxl
      · exact hlt p (List.mem_append_right _ (.tail _ hp))
  have D := (N1 (s.heap.objs.size, { cls := .type "dict", data := .dict #[] }) (by simp)).1
  have D' := (N2 (s.heap.objs.size, dictOf [⟨PyData.keyHash w.params name, .str name (s.toks + 1), v⟩] 1) (by simp)).1
  have hx : s.heap.get? x = some ⟨.ref C, none, .fields vs, osl⟩ := I.at_
  have hx' := Heap.get?_push_of_some (h := s.heap) { cls := .type "dict", data := .dict #[] } hx
  refine wpAny_bind (wpAny_pure (wpAny_bind (wpAny_bind (wpAny_loadPart hx (wpAny_bind (Looks.at (looks_clsIn X hc) ?_))))))
  rw [hd']
  show wpAny _ _ (do let d ← alloc { cls := .type "dict", data := .dict #[] }; update x (fun o => { o with dict := some d }); dictMade (.ref C) x d) _ _ _
  refine wpAny_bind (wpAny_alloc (wpAny_bind (wpAny_update hx' (wpAny_pure ?_))))
  refine wpAny_bind (wpAny_pure (wpAny_bind ?_))
  unfold nsSet
  refine wpAny_bind (wpAny_bind (wpAny_askSetting (wpAny_pure (wpAny_bind (wpAny_mkText (wpAny_bind (wpAny_loadPart D ?_)))))))
  have c0 : aRefKeyMayBeTheName name #[] = false := by rw [aRefKeyMayBeTheName_at]; simp
  show wpAny _ _ (if aRefKeyMayBeTheName name #[] = true then _ else _) _ _ _
  rw [c0]
  refine wpAny_updatePart D ?_
  refine wpAny_bind (wpAny_lookBehind D' (pastItsLine_dict (by rw [List.size_toArray, sizeLine_eq]; exact Nat.le_of_ble_eq_true rfl)) ?_)
  exact wpAny_pure (h _ F2 N2 hlt')
theorem set_more {Q : Unit → Shared → Prop} {es es' : List DictEntry} {n n' : Nat} (F : Fr h₀ L s.heap m) (X₀ : K.In h₀) (N : News h₀ L s.heap news) (I : InstAt s.heap x ox C (some (dictOf es n))) (hd : ox.dict = some dx)
    (hs : findIn K (.ref C) "__setattr__" = some (some (.builtin "object.__setattr__"))) {cd : ClassData} (hc : clsIn K C = some cd) (hm : cd.mro = [.ref C, .type "Exception", .type "BaseException", .type "object"]) (ht : takerIn K C name = some none) (hd' : cd.hasDict = true)
    (hk : aRefKeyMayBeTheName name es.toArray = false) (e : dictOf (putL name (PyData.keyHash w.params name) (.str name (s.toks + 1)) v es) (putN name es n) = dictOf es' n') (U : Upd dx (dictOf es n) (dictOf es' n') news news') (hz : es'.length ≤ 1000)
    (h : ∀ h', Fr h₀ L h' m → News h₀ L h' news' → Q () { s with heap := h', toks := s.toks + 2 }) :
    wpAny (model prog w) A (setAttr (.ref x) name v) Q E s := by
  obtain ⟨oc, odi, oda, osl⟩ := ox
  obtain rfl : oc = .ref C := I.cls
  obtain rfl : odi = some dx := hd
  have X := X₀.keeps F.keep
  refine set_plain X I hs ?_
  have I1 : InstAt ({ s with toks := s.toks + 1 } : Shared).heap x ⟨.ref C, some dx, oda, osl⟩ C (some (dictOf es n)) := I
  refine exc_store_open (s := { s with toks := s.toks + 1 }) X I1 hc hm ht fun b => ?_
  obtain ⟨pre, post, rfl, rfl, a1, a2⟩ := U.split
  obtain ⟨F2, N2⟩ := news_upd (f := Obj.putName name (PyData.keyHash w.params name) (.str name (s.toks + 1)) v) F N a1 a2 ((putName_dict _ _ _ _ _ _).trans e) rfl
  have D := (N (dx, dictOf es n) (by simp)).1
  have D' := (N2 (dx, dictOf es' n') (by simp)).1
  have hx : s.heap.get? x = some ⟨.ref C, some dx, oda, osl⟩ := I.at_
  refine wpAny_bind (wpAny_pure (wpAny_bind (wpAny_bind (wpAny_loadPart hx (wpAny_bind (Looks.at (looks_clsIn X hc) ?_))))))
  rw [hd']
  refine wpAny_pure (a := some dx) (wpAny_bind (wpAny_pure (wpAny_bind ?_)))
  unfold nsSet
  refine wpAny_bind (wpAny_bind (wpAny_askSetting (wpAny_pure (wpAny_bind (wpAny_mkText (wpAny_bind (wpAny_loadPart D ?_)))))))
  show wpAny _ _ (if aRefKeyMayBeTheName name es.toArray = true then _ else _) _ _ _
  rw [hk]
  refine wpAny_updatePart D ?_
  refine wpAny_bind (wpAny_lookBehind D' (pastItsLine_dict (by rw [List.size_toArray, sizeLine_eq]; omega)) ?_)
  exact wpAny_pure (h _ F2 N2)
end
end Mine
end
section
open PySem PySem.W PyProof.Rows PySem.Calls
open Mine
local macro_rules | `(tactic| ktr_room) => `(tactic| k_extra "ktr_room")
local macro_rules | `(tactic| ktr_units) => `(tactic| k_extra "ktr_units")
local macro_rules | `(tactic| k_ne) => `(tactic| k_extra "k_ne")
local macro_rules | `(tactic| omega) => `(tactic| k_extra "omega")
local macro_rules | `(tactic| k_all) => `(tactic| assumption)
local macro_rules | `(tactic| k_room) => `(tactic| ktr_room)
local macro_rules | `(tactic| room) => `(tactic| ktr_room)
local macro_rules | `(tactic| k_units) => `(tactic| ktr_units)
local macro_rules | `(tactic| walk_at $s:str) => `(tactic| k_extra $s)
namespace Mine
theorem lay_o : True := by (k_with "ktr_room" => (first | exact rm1 (by assumption) (by decide) | exact rm0 (by assumption) | exact rm2 (by assumption) (by decide) | exact rm3 (by assumption) (by decide) | exact rm4 (by assumption) (by decide))); (k_with "ktr_units" => (first | exact rm1 (by assumption) (by decide) | exact rm0 (by assumption) | exact rm2 (by assumption) (by decide) | exact rm3 (by assumption) (by decide) | exact rm4 (by assumption) (by decide))); (k_with "k_ne" => (first | assumption | (refine neN ?_; (try dsimp only); first | (refine Nat.ne_of_lt ?_; k_extra "kn"; done) | (refine Nat.ne_of_gt ?_; k_extra "kn"; done) | lia | omega))); (k_with "kn" => (repeat (first | with_reducible assumption | exact an0 (by with_reducible assumption) | exact an1 (by with_reducible assumption) | exact an2 (by with_reducible assumption) | exact an3 (by with_reducible assumption) | exact an4 (by with_reducible assumption) | exact an5 (by with_reducible assumption) | exact an6 (by with_reducible assumption) | exact an7 (by with_reducible assumption) | exact an8 (by with_reducible assumption) | exact ae1 (by with_reducible assumption) | exact ae2 (by with_reducible assumption) | exact ae3 (by with_reducible assumption) | exact ae4 (by with_reducible assumption) | exact ae5 (by with_reducible assumption) | exact ae6 (by with_reducible assumption) | exact ae7 (by with_reducible assumption) | exact ae8 (by with_reducible assumption) | exact Nat.lt_succ_self _ | refine lsu ?_))); (k_with "cF" => ((case kF => k_asm); (case kB => k_asm); (case kX => k_asm); (case kT => k_asm); (case kk => exact rfl))); (k_with "cH" => ((case hd => ktr_room); (case hu => ktr_units))); (k_with "cX" => ((case XB => assumption); (case TB => assumption); (case kD => assumption); (case T0 => first | assumption | exact KtsTurn.refl))); (k_with "So" => ((with_reducible show Stop _); refine Stop.of ?_)); (k_with "omega" => ((k_whole; first | ((with_reducible show (_ : Int) ≤ _); first | with_reducible assumption | decide | exact Int.le_trans (by with_reducible assumption) (by decide) | exact Int.le_trans (Int.le_of_lt (by with_reducible assumption)) (by decide) | exact ile (by with_reducible assumption) (by decide) | ((with_reducible show ((_ : Nat) : Int) ≤ _); exact Int.le_trans (Int.ofNat_le.mpr (by with_reducible assumption)) (by decide)) | exact Int.natCast_nonneg _) | ((with_reducible show (_ : Int) < _); first | with_reducible assumption | decide | exact Int.lt_of_le_of_lt (by with_reducible assumption) (by decide) | exact Int.lt_of_lt_of_le (by with_reducible assumption) (by decide) | exact ilt (by with_reducible assumption) (by decide) | ((with_reducible show ((_ : Nat) : Int) < _); exact Int.lt_of_le_of_lt (Int.ofNat_le.mpr (by with_reducible assumption)) (by decide))) | ((with_reducible show (_ : Nat) ≤ _); first | with_reducible assumption | exact Nat.le_of_ble_eq_true rfl | exact Nat.le_trans (by with_reducible assumption) (by decide)) | ((with_reducible show ¬ ((_ : Int) ≥ _)); refine Int.not_le.mpr ?_; omega) | ((with_reducible show _ ∧ _); refine And.intro ?_ ?_ <;> omega)))); trivial
end Mine
section
local macro_rules | `(tactic| law_fm) => `(tactic| skip)
section
open Sem (wp)
namespace Mine
theorem lay_X5 : True := by w_top off; k_with_none; (k_with "ktr_room" => (first | exact rm1 (by assumption) (by decide) | exact rm0 (by assumption) | exact rm2 (by assumption) (by decide) | exact rm3 (by assumption) (by decide) | exact rm4 (by assumption) (by decide))); (k_with "ktr_units" => (first | exact rm1 (by assumption) (by decide) | exact rm0 (by assumption) | exact rm2 (by assumption) (by decide) | exact rm3 (by assumption) (by decide) | exact rm4 (by assumption) (by decide))); (k_with "k_ne" => (first | assumption | (refine neN ?_; (try dsimp only); first | (refine Nat.ne_of_lt ?_; k_extra "kn"; done) | (refine Nat.ne_of_gt ?_; k_extra "kn"; done) | lia | omega))); (k_with "kn" => (repeat (first | with_reducible assumption | exact an0 (by with_reducible assumption) | exact an1 (by with_reducible assumption) | exact an2 (by with_reducible assumption) | exact an3 (by with_reducible assumption) | exact an4 (by with_reducible assumption) | exact an5 (by with_reducible assumption) | exact an6 (by with_reducible assumption) | exact an7 (by with_reducible assumption) | exact an8 (by with_reducible assumption) | exact ae1 (by with_reducible assumption) | exact ae2 (by with_reducible assumption) | exact ae3 (by with_reducible assumption) | exact ae4 (by with_reducible assumption) | exact ae5 (by with_reducible assumption) | exact ae6 (by with_reducible assumption) | exact ae7 (by with_reducible assumption) | exact ae8 (by with_reducible assumption) | exact Nat.lt_succ_self _ | refine lsu ?_))); (k_with "cF" => ((case kF => k_asm); (case kB => k_asm); (case kX => k_asm); (case kT => k_asm); (case kk => exact rfl))); (k_with "cH" => ((case hd => ktr_room); (case hu => ktr_units))); (k_with "cX" => ((case XB => assumption); (case TB => assumption); (case kD => assumption); (case T0 => first | assumption | exact KtsTurn.refl))); (k_with "So" => ((with_reducible show Stop _); refine Stop.of ?_)); (k_with "omega" => ((k_whole; first | ((with_reducible show (_ : Int) ≤ _); first | with_reducible assumption | decide | exact Int.le_trans (by with_reducible assumption) (by decide) | exact Int.le_trans (Int.le_of_lt (by with_reducible assumption)) (by decide) | exact ile (by with_reducible assumption) (by decide) | ((with_reducible show ((_ : Nat) : Int) ≤ _); exact Int.le_trans (Int.ofNat_le.mpr (by with_reducible assumption)) (by decide)) | exact Int.natCast_nonneg _) | ((with_reducible show (_ : Int) < _); first | with_reducible assumption | decide | exact Int.lt_of_le_of_lt (by with_reducible assumption) (by decide) | exact Int.lt_of_lt_of_le (by with_reducible assumption) (by decide) | exact ilt (by with_reducible assumption) (by decide) | ((with_reducible show ((_ : Nat) : Int) < _); exact Int.lt_of_le_of_lt (Int.ofNat_le.mpr (by with_reducible assumption)) (by decide))) | ((with_reducible show (_ : Nat) ≤ _); first | with_reducible assumption | exact Nat.le_of_ble_eq_true rfl | exact Nat.le_trans (by with_reducible assumption) (by decide)) | ((with_reducible show ¬ ((_ : Int) ≥ _)); refine Int.not_le.mpr ?_; omega) | ((with_reducible show _ ∧ _); refine And.intro ?_ ?_ <;> omega)))); (k_with "subscriptTail Name Constant ref int" => ((k_here; (with_reducible show wpAny _ _ (subscriptTail _ _ (Value.ref _) (Value.int _ _)) _ _ _); (with_unfolding_all refine' item_litK ?_ ?_ ?_ ?_ ?_ ?_; rotate_right 6; (focus ((is_list); done)); (decide); (decide); (rfl); (rotate_left 1; (with_unfolding_all rfl); rotate_right 1); k_whole)))); (k_with "ite" => ((k_closed; k_dflt (first | refine ite_pos (by decide +kernel) ?_ | refine ite_neg (by decide +kernel) ?_)))); (k_with "call builtin:isinstance" => (first | with_reducible refine IsiPair.int_str ?_ | with_reducible refine IsiPair.int_tuple ?_ | with_reducible refine IsiPair.str_str ?_ | with_reducible refine IsiPair.str_tuple ?_)); (k_with "storeName" => ((k_here; k_dflt (refine' storeX_L ?_ ?_ ?_ ?_ ?_; rotate_right 5; (rotate_left 4; (kernel_rfl!); rotate_right 4); (k_asm); (k_asm); (rotate_left 1; (rfl); rotate_right 1); k_whole; intro _ _ _; (try k_sweep))))); (k_with "eval Name" => ((k_here; (fail_if_success (with_reducible show wpAny _ _ (eval (PySem.Expr.Name _ _) (compEnvC _ _ _ _)) _ _ _)); name_kind "cell"; k_dflt (refine' nameX_C ?_ ?_ ?_ ?_ ?_ ?_ ?_ ?_; rotate_right 8; (rotate_left 5; (rfl); rotate_right 5); (rotate_left 5; (kernel_rfl); rotate_right 5); (k_asm); (rfl); (focus ((k_mem); done)); (k_asm); (rotate_left 1; (kernel_rfl); rotate_right 1); k_whole)))); (k_with "eval Name" => ((k_here; (fail_if_success (with_reducible show wpAny _ _ (eval (PySem.Expr.Name _ _) (compEnvC _ _ _ _)) _ _ _)); name_kind "globalImplicit"; k_dflt (first | ((refine' nameX_K ?_ ?_ ?_ ?_ ?_ ?_ ?_ ?_; rotate_right 8; (rotate_left 6; (kernel_rfl); rotate_right 6); (k_asm); (k_asm); (k_asm); (rotate_left 2; (rfl); rotate_right 2); (rotate_left 2; (kernel_rfl); rotate_right 2); (focus ((k_is); done)); k_whole)) | ((refine' nameX_B ?_ ?_ ?_ ?_ ?_ ?_ ?_ ?_ ?_ ?_; rotate_right 10; (rotate_left 8; (kernel_rfl); rotate_right 8); (k_asm); (k_asm); (k_asm); (rotate_left 4; (rfl); rotate_right 4); (rotate_left 4; (kernel_rfl); rotate_right 4); (focus ((k_is); done)); (focus ((boot_fast); done)); (decide +kernel); k_whole)))))); (k_with "eval Name" => ((k_here; (fail_if_success (with_reducible show wpAny _ _ (eval (PySem.Expr.Name _ _) (compEnvC _ _ _ _)) _ _ _)); name_kind "local"; k_dflt (refine' nameX_L ?_ ?_ ?_ ?_ ?_ ?_; rotate_right 6; (rotate_left 4; (kernel_rfl); rotate_right 4); (k_asm); (rotate_left 2; (rfl); rotate_right 2); (rotate_left 2; (kernel_rfl); rotate_right 2); (focus ((((repeat (first | with_reducible exact nm_hit | ((with_reducible refine Eq.trans (nm_miss ?_) ?_; kernel_rfl)))); (try rfl))); done)); k_whole)))); (k_with "exec Raise some none" => ((k_here; k_dflt (refine' raise_leave ?_ ?_ ?_ ?_ ?_ ?_ ?_ ?_ ?_ ?_; rotate_right 10; (k_asm); (k_asm); (k_asm); (k_asm); (k_asm); (exact rfl); (ktr_room); (rotate_left 1; (exact rfl); rotate_right 1); (rotate_left 1; (exact rfl); rotate_right 1)); intro _ _ _ _ _; (try dsimp only)))); (k_with "leaving ref" => ((k_here; k_dflt (refine' leave_next ?_ ?_ ?_ ?_ ?_; rotate_right 5; (rotate_left 2; (assumption); rotate_right 2); (rotate_left 1; (assumption); rotate_right 1); (assumption); (assumption)); intro _ _ _; (try dsimp only)))); (have : (0 : Nat) ≤ 1 := by (first | (walk1; done) | decide)); trivial
theorem fill : True ∨ (Challenge.rw_pf0012_01.Holds ∧ ∀ P, hd.heap_39 P = hd.heap_39 P) := by k_fill; exact .inl trivial
noncomputable abbrev excObj (d : Addr) (tp : Addr) (sl : Array (Option Value)) : Obj := { cls := .ref 34, dict := some d, data := .fields #[.ref tp, .none, .none, .none, .bool false, .none], slots := sl }
noncomputable abbrev excDict (w : World) (c : Str) (t t1 t2 t3 : Tok) : Obj := dictOf [⟨PyData.keyHash w.params "code", .str "code" t1, .str c t⟩, ⟨PyData.keyHash w.params "told", .str "told" t2, .str "" t3⟩] 2
theorem ns_some_at {K : Frag} {h : Heap} {D : Addr} {mD : Str → Option Value} {n : Str} {v : Value} (X : K.In h) (G : h.Ns D mD) (e : nsIn K D n = some (some v)) : mD n = some v := by
  first | (refine and7 G ?_; clear G; intro o es ep ho hd _ hf) | obtain ⟨o, es, ep, ho, hd, _, hf⟩ := G
  unfold nsIn at e
  split at e
  · rename_i q
    have := X _ _ q
    rw [ho] at this
    cases this
    cases hd
    split at e
    · rename_i e' he
      cases e
      rw [← hf]
      unfold nsFind findBy
      rw [← Array.find?_toList, he]
      rfl
    · split at e <;> cases e
  · cases e
theorem ns33 {w : World} {h : Heap} (X : Frag.In (hd.heap_39 w.params) h) : h.Ns 33 (h.nsMap 33) := .of_isNs (isNs_of_in X (by with_unfolding_all rfl))
theorem inst0 {h : Heap} {e : Addr} {vs : Array Value} {sl : Array (Option Value)} (he : h.get? e = some { cls := .ref 34, data := .fields vs, slots := sl }) : InstAt h e { cls := .ref 34, data := .fields vs, slots := sl } 34 none := ⟨he, rfl, rfl, trivial⟩
theorem mk_exc {w : World} {p : Program} {loose : List Str} {mean : ExcName → Option Value} {mg mb : Str → Option Value} {A A₀ : Around} {s : Shared} {base h₀ : Heap} {L : Addr} {m : Str → Option Value} {news : List (Addr × Obj)} {env : Env} {outer : List Env} {c : Str} {t : Tok} {Q E : Value → Shared → Prop}
   (B : Below A₀ base outer h₀) (F : Fr h₀ L s.heap m) (X₀ : Frag.In (hd.heap_39 w.params) h₀) (N : News h₀ L s.heap news) (T : Top p loose mean mg mb h₀) (hA : A.frames = some (env :: outer)) (hf : env.frame = some L) (hke : env.scope.kind = .function)
   (hdp : A.depth + 5 < recursionLimit)
   (hQ : ∀ e d tp sl t1 t2 t3 h' tk', Fr h₀ L h' m → News h₀ L h' ((e, excObj d tp sl) :: (d, excDict w c t t1 t2 t3) :: news) → (∀ p ∈ news, p.1 ≠ e) → d ≠ e → Q (.ref e) { s with heap := h', toks := tk' }) :
   wpAny (model Challenge.pw_pf0012_01 w) A (call (.ref 34) [.str c t]) Q E s := by
  refine shed ?_ fun _ n h => ?_
  focus (
  have X : Frag.In (hd.heap_39 w.params) s.heap := X₀.keeps F.keep
  first | (refine and5 s ?_; clear s; intro hp g dd tk os) | obtain ⟨hp, g, dd, tk, os⟩ := s
  refine wpAny_call_exc_init PySem.F.excBase_Exception (exc_cls X) (fI := 31) (mN := hp.nsMap 33) (ns33 X) (ns_some_at X (ns33 X) (by with_unfolding_all rfl)) (X 31 _ (by with_unfolding_all rfl)) rfl ?_ (by rw [sizeLine_eq]; exact Nat.le_of_ble_eq_true rfl)
  · intro h' e hm
    obtain ⟨tp, he, htn, htp⟩ := hm.there
    have F' : Fr h₀ L h' m := ⟨let ⟨oL, a1, a2, hL, a3⟩ := F.ns; ⟨oL, a1, a2, hm.keeps _ _ hL, a3⟩, fun b o q => hm.keeps _ _ (F.keep b o q), F.above⟩
    have N1 : News h₀ L h' news := fun p hp => ⟨hm.keeps _ _ (N p hp).1, (N p hp).2⟩
    have hLs : ∀ b, hp.get? b = none → b ≠ L := fun b hb q => by obtain ⟨oL, a1, a2, hL, a3⟩ := F.ns; rw [q, hL] at hb; cases hb
    have h0n : ∀ b, hp.get? b = none → h₀.get? b = none := fun b hb => kts_none F.keep hb
    have N' : News h₀ L h' ((e, { cls := .ref 34, data := .fields #[.ref tp, .none, .none, .none, .bool false, .none] }) :: (tp, { cls := .type "tuple", data := .seq #[.str c t] }) :: news) := by
      intro p hp
      rcases List.mem_cons.mp hp with rfl | hp
      · exact ⟨he, hLs _ hm.new, h0n _ hm.new⟩
      · rcases List.mem_cons.mp hp with rfl | hp
        · exact ⟨htp, hLs _ htn, h0n _ htn⟩
        · exact N1 p hp
    have het : e ≠ tp := fun q => by rw [q, htp] at he; cases he
    have hnews : ∀ p ∈ news, p.1 ≠ e ∧ p.1 ≠ tp := fun p hp => ⟨(fun q => by have := (N p hp).1; rw [q, hm.new] at this; cases this), (fun q => by have := (N p hp).1; rw [q, htn] at this; cases this)⟩
    have hA' : (A.under (.builtin "type.__call__" ⟨[.ref 34, .str c t], []⟩)).frames = some (env :: outer) := by rw [← hA]; rfl
    have hd' : (A.under (.builtin "type.__call__" ⟨[.ref 34, .str c t], []⟩)).depth = A.depth + 1 := rfl
    generalize A.under (.builtin "type.__call__" ⟨[.ref 34, .str c t], []⟩) = A' at *
    refine wpAny_call ?_
    refine' ks_code_super B F' X₀ N' T hA' hf hke ?k6 ?k7 ?k8 ?k9 ?kB ?_ ?c1 ?c2 ?c3 ?c4
    (case k6 => k_is)
    (case k7 => k_is)
    (case k8 => rw [hd']; omega)
    (case k9 => exact binds_K (X₀.keeps F'.keep) rfl (by k_is) rfl rfl rfl)
    (case kB => exact locs rfl); (case c1 => decide); (case c2 => exact rfl); (case c3 => exact rfl); (case c4 => exact rfl); intro g' L' h1 FG' F1 N2 B' X' T' l1
    k_dflt (refine ks_wpAt_execs_cons (ks_wpAt_Expr_any (ks_wpAt_MethodCall ?_)))
    k_dflt (refine ks_node F1 X' N2 T' (by k_is) rfl rfl (inst0 (N2 _ (.head _)).1) (by k_is) rfl rfl (by k_is) (by k_is) (by k_is) (by k_is) (by decide) rfl rfl rfl rfl (by decide +kernel) (by first | boot_by_name | rfl | kernel_rfl) ?_)
    intro so h2 F2 N3 l2
    have X2 := X'.keeps F2.keep
    refine getMethod_super_init (N3 _ (.head _)).1 (looks_opaque X2 (by k_is)) ?_ (N3 _ (.tail _ (.head _))).1 rfl (looks_mroIn X2 (by k_is)) ?_ ?_
    · exact fun A Q E s k q => wpAny_bind ((looks_clsIn X2 (C := 34) (by with_unfolding_all rfl)) A _ E s k (wpAny_pure q))
    · exact ks_ne X2 (inst0 (N3 _ (.tail _ (.head _))).1) (by with_unfolding_all rfl)
    have F3 : Fr g' L' (h2.push (wrapObj e)) _ := F2.push _
    have N4 := N3.push F2 (wrapObj e)
    dsimp only at N4 F3 ⊢
    generalize hq : h2.objs.size = q at N4 ⊢
    generalize h2.push (wrapObj e) = h3 at N4 F3 ⊢
    k_dflt (refine callWith_W (q := q) (x := e) ?_)
    repeat' walk1
    · exact (N4 _ (.head _)).1
    have X3 := X'.keeps F3.keep
    refine call_wrap (N4 _ (.head _)).1 (N4 _ (.tail _ (.tail _ (.head _)))).1 (exc_cls X3) (looks_mroIn X3 (by k_is)) ?_
    have N5 := N4.push F3 { cls := .type "tuple", data := .seq #[.str c t] }
    have F4 : Fr g' L' (h3.push { cls := .type "tuple", data := .seq #[.str c t] }) _ := F3.push _
    generalize hu : h3.objs.size = tu at N5 ⊢
    generalize h3.push { cls := .type "tuple", data := .seq #[.str c t] } = h4 at N5 F4 ⊢
    have hne : tu ≠ e ∧ q ≠ e ∧ so ≠ e := by
      have ho := (N5 _ (.tail _ (.tail _ (.tail _ (.head _))))).1
      refine ⟨fun z => ?_, fun z => ?_, fun z => ?_⟩
      · have h1 := (N5 _ (.head _)).1
        dsimp only at h1 ho
        rw [z, ho] at h1
        cases h1
      · have h1 := (N5 _ (.tail _ (.head _))).1
        dsimp only at h1 ho
        rw [z, ho] at h1
        cases h1
      · have h1 := (N5 _ (.tail _ (.tail _ (.head _)))).1
        dsimp only at h1 ho
        rw [z, ho] at h1
        cases h1
    obtain ⟨F5, N6⟩ := news_upd (f := Obj.mapFields (·.setIfInBounds 0 (.ref tu))) (pre := [(tu, _), (q, _), (so, _)]) (d := e) (post := (tp, _) :: news) F4 N5 (by
      intro p hp
      simp only [List.mem_cons, List.not_mem_nil, or_false] at hp
      rcases hp with rfl | rfl | rfl
      · exact hne.1
      · exact hne.2.1
      · exact hne.2.2) (by
      intro p hp
      rcases List.mem_cons.mp hp with rfl | hp
      · exact het.symm
      · exact (hnews p hp).1) rfl rfl
    generalize h4.update e (Obj.mapFields (·.setIfInBounds 0 (.ref tu))) = h5 at N6 F5 ⊢
    have N7 : News g' L' h5 ((e, { cls := .ref 34, data := .fields #[.ref tu, .none, .none, .none, .bool false, .none] }) :: (tu, { cls := .type "tuple", data := .seq #[.str c t] }) :: news) := kst_newsOf N6 (by
      intro p hp
      rcases List.mem_cons.mp hp with rfl | hp
      · exact .tail _ (.tail _ (.tail _ (.head _)))
      · rcases List.mem_cons.mp hp with rfl | hp
        · exact .head _
        · exact tl5 hp)
    clear N6 N5 N4 N3
    k_steps
    refine set_new F5 X' N7 (inst0 (N7 _ (.head _)).1) rfl rfl (by k_is) (cd := _) (by with_unfolding_all rfl) rfl (by k_is) rfl (.head fun p hp => ?_) ?_
    · rcases List.mem_cons.mp hp with rfl | hp
      · exact hne.1
      · exact (hnews p hp).1
    intro h6 F6 N8 l8
    dsimp only at N8
    generalize hdx : h5.objs.size = dx at N8 l8 ⊢
    k_steps
    refine set_more F6 X' N8 (ox := { cls := .ref 34, dict := some dx, data := .fields #[.ref tu, .none, .none, .none, .bool false, .none] }) ⟨(N8 _ (.tail _ (.head _))).1, rfl, rfl, (N8 _ (.head _)).1⟩ rfl (by k_is) (cd := _) (by with_unfolding_all rfl) rfl (by k_is) rfl (by rw [aRefKeyMayBeTheName_at]; with_unfolding_all rfl) (es' := [⟨PyData.keyHash w.params "code", .str "code" _, .str c t⟩, ⟨PyData.keyHash w.params "told", .str "told" _, .str "" _⟩]) (n' := 2) (by with_unfolding_all rfl) (.head fun p hp => Nat.ne_of_lt (l8 p hp)) (Nat.le_of_ble_eq_true rfl) ?_
    intro h7 F7 N9
    dsimp only at N9
    k_steps
    (rename Fr _ _ _ _ => kF)
    (rename News _ _ _ _ => kN)
    exact hQ e dx tu #[] _ _ _ _ _ kF (kst_newsOf kN (by
      intro p hp
      rcases List.mem_cons.mp hp with rfl | hp
      · exact .tail _ (.head _)
      · rcases List.mem_cons.mp hp with rfl | hp
        · exact .head _
        · exact tl3 hp)) (fun p hp => (hnews p hp).1) (Nat.ne_of_gt (l8 _ (.head _)))
  )
  simpa using pick n 5 h
end Mine
end
section
open Sem (wp)
namespace Mine
noncomputable def IsExc (d : Addr) (o : Obj) : Prop := o.cls = .ref 34 ∧ o.dict = some d
theorem IsExc.map {d : Addr} {o : Obj} (h : IsExc d o) (f : Array Value → Array Value) : IsExc d (o.mapFields f) := by
  first | (refine and4 o ?_; clear o; intro c dd dt sl) | obtain ⟨c, dd, dt, sl⟩ := o
  cases dt <;> exact h
inductive Noted (h base : Heap) (e d : Addr) (fl : Value) : Prop where
  | mk (oe : _) (vs : _) (T : _) (oT : _) (ts : _) (h1 : h.get? e = some oe) (h2 : IsExc d oe) (h3 : oe.data = .fields vs) (h4 : vs[1]? = some (.ref T)) (h5 : base.get? T = none) (h6 : T ≠ e) (h7 : h.get? T = some oT) (h8 : oT.data = .fields ts) (h9 : ts[3]? = some fl)
inductive Stepped (base : Heap) (l : List Env) (e d : Addr) (fl : Value) (h h' : Heap) : Prop where
  | mk  (h1 : base.StaysIn h') (h2 : h'.FunFrames base l) (h3 : Noted h' base e d fl) (h4 : h.UpToSlots h')
section
variable {M : Model} {A : Around} {E : Value → Shared → Prop} {s : Shared}
theorem entry_made {base : Heap} {env : Env} {outer : List Env} {L e d : Addr} {oe : Obj} {vs : Array Value} {head : Value} {hadNext : Bool} {Q : Unit → Shared → Prop}
    (hfr : A.frames = some (env :: outer)) (hl : s.heap.FunFrames base (env :: outer)) (hf : env.frame = some L)
    (he : s.heap.get? e = some oe) (hkb : base.StaysIn s.heap) (hen : base.get? e = none) (hd : oe.data = .fields vs) (hsz : 1 < vs.size) (h0 : IsExc d oe)
    (h : ∀ h', Stepped base (env :: outer) e d (rawInt L) s.heap h' → Q () { s with heap := h' }) :
    wpAny M A (do let a ← frameOf env; let pl ← entryPlaceOf L hadNext; let b ← EntryCells.newEntry head a .none (rawInt L) .none pl; setField (.ref e) 1 b) Q E s := by
  have hout : e ∉ (env :: outer).filterMap (·.frame) := fun hm => by
    obtain ⟨_, o, ho, hnf⟩ := hl.mem hm
    rw [he] at ho; injection ho with ho; subst ho; exact hnf vs hd
  refine wpAny_bind (wpAny_frameOf_fun hfr hl hf fun h₁ hs₁ => ?_)
  refine wpAny_bind (wpAny_entryPlaceOf fun pl hpl => ?_)
  unfold EntryCells.newEntry newFields
  refine wpAny_bind (wpAny_newObj_type ?_ (hpl.sizeOk5 _ _ _ _ _))
  have he₁ : h₁.get? e = some oe := (hs₁.2.1 e hout).trans he
  have kb₁ : base.StaysIn h₁ := fun b o hbo => (hs₁.2.1 b fun hm => by rw [(hl.mem hm).1] at hbo; cases hbo).trans (hkb b o hbo)
  generalize hoT : ({ cls := .type "traceback", dict := none, data := .fields ([head, .ref L, .none, rawInt L, .none] ++ (if pl.isEmpty then List.replicate 6 Value.none else pl)).toArray } : Obj) = oT
  have hTd : oT.data = .fields ([head, .ref L, .none, rawInt L, .none] ++ (if pl.isEmpty then List.replicate 6 Value.none else pl)).toArray := by rw [← hoT]
  have he₂ := Heap.get?_push_of_some (h := h₁) oT he₁
  refine wpAny_setField he₂ hd hsz (h _ ?_)
  have hTe : h₁.objs.size ≠ e := Nat.ne_of_gt (Heap.lt_size he₁)
  have hd₃ := Obj.data_mapFields hd (·.setIfInBounds 1 (Value.ref h₁.objs.size))
  have he₃ := Heap.get?_update_self (Obj.mapFields (·.setIfInBounds 1 (Value.ref h₁.objs.size))) he₂ (Obj.isFreed_of_fields hd₃)
  have hT₃ := (Heap.get?_update_other (h₁.push oT) (Obj.mapFields (·.setIfInBounds 1 (Value.ref h₁.objs.size))) (Ne.symm hTe)).trans (Heap.get?_push_size h₁ (Obj.isFreed_of_fields hTd))
  have keep : ∀ b o, b ≠ e → h₁.get? b = some o → ((h₁.push oT).update e (Obj.mapFields (·.setIfInBounds 1 (Value.ref h₁.objs.size)))).get? b = some o := fun b o hbe hb => by
    rw [Heap.get?_update_other _ _ (Ne.symm hbe)]
    exact Heap.get?_push_of_some _ hb
  have plain : ∀ b o, s.heap.get? b = some o → (∀ vs, o.data ≠ .fields vs) → b ≠ e := fun b o hb hnf q => by
    rw [q, he] at hb; injection hb with hb; subst hb; exact hnf vs hd
  refine ⟨fun b o hbo => keep b o (fun q => by rw [q, hen] at hbo; cases hbo) (kb₁ b o hbo), hl.of_keeps fun b o hb hnf => ?_, ?_, fun b o hb hnf => ?_⟩
  · obtain ⟨sl, hs⟩ := hs₁.2.2 b o hb
    exact ⟨_, keep b _ (plain b o hb hnf) hs, rfl⟩
  · exact ⟨_, _, h₁.objs.size, _, _, he₃, h0.map _, hd₃, by simp [hsz], kb₁.fresh, hTe, hT₃, hTd, by first | (simp; done) | (rcases hpl with rfl | ⟨_, _, _, _, _, _, _, rfl⟩ <;> simp)⟩
  · obtain ⟨sl, hs⟩ := hs₁.2.2 b o hb
    exact ⟨sl, keep b _ (plain b o hb hnf) hs⟩
theorem flight_off {base : Heap} {l : List Env} {e d : Addr} {fl : Value} {Q : Unit → Shared → Prop}
    (hkb : base.StaysIn s.heap) (hl : s.heap.FunFrames base l) (ht : Noted s.heap base e d fl)
    (h : ∀ h', Stepped base l e d .none s.heap h' → Q () { s with heap := h' }) : wpAny M A (setFlight (.ref e) none) Q E s := by
  refine hideG ?_
  intro GG
  first | (refine and14 ht ?_; clear ht; intro oe vs T oT ts he hcls hd h1 hnT hTe hT hdT h3) | obtain ⟨oe, vs, T, oT, ts, he, hcls, hd, h1, hnT, hTe, hT, hdT, h3⟩ := ht
  k_unfold
  have hsz3 : 3 < ts.size := (Array.getElem?_eq_some_iff.mp h3).1
  have other : ∀ b, b ≠ T → (s.heap.update T (Obj.mapFields (·.setIfInBounds 3 ((none : Option Addr).elim Value.none fun f => rawInt f)))).get? b = s.heap.get? b :=
    fun b hb => Heap.get?_update_other _ _ (Ne.symm hb)
  have plain : ∀ b o, s.heap.get? b = some o → (∀ vs, o.data ≠ .fields vs) → b ≠ T := fun b o hb hnf q => by
    rw [q, hT] at hb; injection hb with hb; subst hb; exact hnf ts hdT
  unfold setFlight
  refine wpAny_bind (wpAny_field he hd h1 ?_)
  rw [if_pos (show (Value.ref T != Value.none) = true from by simp)]
  refine wpAny_setField hT hdT hsz3 (h _ ⟨fun b o hbo => (other b fun q => by rw [q, hnT] at hbo; cases hbo).trans (hkb b o hbo),
    hl.of_keeps fun b o hb hnf => ⟨o, (other b (plain b o hb hnf)).trans hb, rfl⟩, ?_, fun b o hb hnf => ⟨o.slots, (other b (plain b o hb hnf)).trans hb⟩⟩)
  exact ⟨oe, vs, T, _, _, (other e (Ne.symm hTe)).trans he, hcls, hd, h1, hnT, hTe, Heap.get?_update_self _ hT (Obj.isFreed_of_fields (Obj.data_mapFields hdT _)), Obj.data_mapFields hdT _, by simp [hsz3]⟩
theorem note_first {base : Heap} {env : Env} {outer : List Env} {L e d : Addr} {oe : Obj} {vs : Array Value} {Q : Unit → Shared → Prop}
    (hfr : A.frames = some (env :: outer)) (hl : s.heap.FunFrames base (env :: outer)) (hf : env.frame = some L)
    (he : s.heap.get? e = some oe) (hkb : base.StaysIn s.heap) (hen : base.get? e = none) (hd : oe.data = .fields vs) (h1 : vs[1]? = some .none) (h0 : IsExc d oe)
    (h : ∀ h', Stepped base (env :: outer) e d (rawInt L) s.heap h' → Q () { s with heap := h' }) : wpAny M A (noteFrame (.ref e) env) Q E s := by
  unfold noteFrame
  simp only [hf]
  refine wpAny_bind (wpAny_field he hd h1 ?_)
  rw [if_neg (by decide)]
  exact entry_made hfr hl hf he hkb hen hd (Array.getElem?_eq_some_iff.mp h1).1 h0 h
theorem note_next {base : Heap} {env : Env} {outer : List Env} {L e d : Addr} {Q : Unit → Shared → Prop}
    (hfr : A.frames = some (env :: outer)) (hl : s.heap.FunFrames base (env :: outer)) (hf : env.frame = some L) (ht : Noted s.heap base e d .none) (hkb : base.StaysIn s.heap) (hen : base.get? e = none)
    (h : ∀ h', Stepped base (env :: outer) e d (rawInt L) s.heap h' → Q () { s with heap := h' }) : wpAny M A (noteFrame (.ref e) env) Q E s := by
  refine hideG ?_
  intro GG
  first | (refine and14 ht ?_; clear ht; intro oe vs T oT ts he h0 hd h1 hnT hTe hT hdT h3) | obtain ⟨oe, vs, T, oT, ts, he, h0, hd, h1, hnT, hTe, hT, hdT, h3⟩ := ht
  k_unfold
  unfold noteFrame
  simp only [hf]
  refine wpAny_bind (wpAny_field he hd h1 ?_)
  rw [if_pos (show (Value.ref T != Value.none) = true from by simp)]
  refine wpAny_bind (wpAny_field hT hdT h3 ?_)
  rw [if_neg (show ¬ ((Value.none == rawInt L) = true) from by simp [rawInt])]
  refine wpAny_bind (wpAny_setField hT hdT (Array.getElem?_eq_some_iff.mp h3).1 ?_)
  have other : ∀ b, b ≠ T → (s.heap.update T (Obj.mapFields (·.setIfInBounds 3 Value.none))).get? b = s.heap.get? b := fun b hb => Heap.get?_update_other _ _ (Ne.symm hb)
  have plain : ∀ b o, s.heap.get? b = some o → (∀ vs, o.data ≠ .fields vs) → b ≠ T := fun b o hb hnf q => by
    rw [q, hT] at hb; injection hb with hb; subst hb; exact hnf ts hdT
  refine entry_made hfr (hl.of_keeps fun b o hb hnf => ⟨o, (other b (plain b o hb hnf)).trans hb, rfl⟩) hf ((other e (Ne.symm hTe)).trans he)
    (fun b o hbo => (other b fun q => by rw [q, hnT] at hbo; cases hbo).trans (hkb b o hbo)) hen hd (Array.getElem?_eq_some_iff.mp h1).1 h0
    fun h' ⟨x1, x2, x3, x4⟩ => h h' ⟨x1, x2, x3, fun b o hb hnf => x4 b o ((other b (plain b o hb hnf)).trans hb) hnf⟩
theorem left_first {base : Heap} {env : Env} {outer : List Env} {L e d : Addr} {oe : Obj} {vs : Array Value} {Q : Unit → Shared → Prop}
    (hfr : A.frames = some (env :: outer)) (hl : s.heap.FunFrames base (env :: outer)) (hf : env.frame = some L)
    (he : s.heap.get? e = some oe) (hkb : base.StaysIn s.heap) (hen : base.get? e = none) (hd : oe.data = .fields vs) (h1 : vs[1]? = some .none) (h0 : IsExc d oe)
    (h : ∀ h', Stepped base (env :: outer) e d .none s.heap h' → Q () { s with heap := h' }) : wpAny M A (leaving env (.ref e)) Q E s := by
  unfold leaving
  refine wpAny_bind (note_first hfr hl hf he hkb hen hd h1 h0 fun h' ⟨x1, x2, x3, x4⟩ => ?_)
  exact flight_off x1 x2 x3 fun h'' ⟨y1, y2, y3, y4⟩ => h h'' ⟨y1, y2, y3, x4.trans y4⟩
theorem left_next {base : Heap} {env : Env} {outer : List Env} {L e d : Addr} {Q : Unit → Shared → Prop}
    (hfr : A.frames = some (env :: outer)) (hl : s.heap.FunFrames base (env :: outer)) (hf : env.frame = some L) (ht : Noted s.heap base e d .none) (hkb : base.StaysIn s.heap) (hen : base.get? e = none)
    (h : ∀ h', Stepped base (env :: outer) e d .none s.heap h' → Q () { s with heap := h' }) : wpAny M A (leaving env (.ref e)) Q E s := by
  unfold leaving
  refine wpAny_bind (note_next hfr hl hf ht hkb hen fun h' ⟨x1, x2, x3, x4⟩ => ?_)
  exact flight_off x1 x2 x3 fun h'' ⟨y1, y2, y3, y4⟩ => h h'' ⟨y1, y2, y3, x4.trans y4⟩
end
end Mine
end
section
open Sem (wp)
namespace Mine
inductive Flies (w : World) (base G : Heap) (l : List Env) (e : Addr) (c : Str) (news : List (Addr × Obj)) (h : Heap) : Prop where
  | mk (d : _) (B : _) (tc : _) (t1 : _) (t2 : _) (t3 : _) (h1 : base.StaysIn B) (h2 : (∀ b o, G.get? b = some o → b ∉ l.filterMap (·.frame) → B.get? b = some o)) (h3 : (∀ q ∈ ((d, excDict w c tc t1 t2 t3) :: news), B.get? q.1 = some q.2 ∧ G.get? q.1 = none ∧ base.get? q.1 = none)) (h4 : B.StaysIn h) (h5 : B.get? e = none) (h6 : h.FunFrames B l) (h7 : Noted h B e d .none)
section
variable {M : Model} {A : Around} {E : Value → Shared → Prop} {s' : Shared} {w : World} {base g g₂ h : Heap} {outer : List Env} {L a e : Addr} {m : Str → Option Value} {name : Str} {scope : Scope} {cd : Value} {Q : Unit → Shared → Prop} {news : List (Addr × Obj)} {c : Str}
theorem leave_first {d tp : Addr} {sl : Array (Option Value)} {tc t1 t2 t3 : Tok} (K : Below A base outer g) (F : Fr g L s'.heap m) (N : News g L s'.heap ((e, excObj d tp sl) :: (d, excDict w c tc t1 t2 t3) :: news)) (hne : ∀ p ∈ news, p.1 ≠ e) (hde : d ≠ e)
    (hQ : ∀ h', Flies w base g outer e c news h' → g.UpToSlots h' → Q () { s' with heap := h' }) (hk : scope.kind = .function := by rfl) :
    wpAny M (A.deeper (envOf name scope L a cd)) (leaving (envOf name scope L a cd) (.ref e)) Q E s' := by
  have K' := K.push (name := name) (a := a) (cd := cd) F hk
  have hin : ∀ env ∈ (envOf name scope L a cd :: outer), ∀ b, env.frame = some b → b ∈ e :: (envOf name scope L a cd :: outer).filterMap (·.frame) := fun env he b hb => .tail _ (List.mem_filterMap.mpr ⟨env, he, hb⟩)
  have hge : g.get? e = none := (N _ (.head _)).2.2
  have hbe : base.get? e = none := fresh_of_stays K.stays hge
  have st : base.StaysIn (hideAll s'.heap (e :: (envOf name scope L a cd :: outer).filterMap (·.frame))) := fun b o q => hideAll_get _ (K'.stays b o q) fun hm => by
    rcases List.mem_cons.mp hm with rfl | hm
    · rw [hbe] at q; cases q
    · rw [(K'.frames.mem hm).1] at q; cases q
  have sg : ∀ b o, g.get? b = some o → b ∉ outer.filterMap (·.frame) → (hideAll s'.heap (e :: (envOf name scope L a cd :: outer).filterMap (·.frame))).get? b = some o := fun b o q nm => hideAll_get _ (F.keep b o q) fun hm => by
    rcases List.mem_cons.mp hm with rfl | hm
    · rw [hge] at q; cases q
    · rcases kts_mem hm with z | z
      · rw [z, kts_self F] at q
        cases q
      · exact nm z
  have hl : ∀ q ∈ ((d, excDict w c tc t1 t2 t3) :: news), (hideAll s'.heap (e :: (envOf name scope L a cd :: outer).filterMap (·.frame))).get? q.1 = some q.2 ∧ g.get? q.1 = none ∧ base.get? q.1 = none := fun q hq => by
    have Nq := N q (.tail _ hq)
    refine ⟨hideAll_get _ Nq.1 fun hm => ?_, Nq.2.2, fresh_of_stays K.stays Nq.2.2⟩
    rcases List.mem_cons.mp hm with z | hm
    · rcases List.mem_cons.mp hq with rfl | hq
      · exact hde z
      · exact hne q hq z
    · obtain ⟨env, he, hf⟩ := List.mem_filterMap.mp hm
      rcases List.mem_cons.mp he with rfl | he
      · exact Nq.2.1 (Option.some.inj hf).symm
      · obtain ⟨o, ho, _⟩ := (K.frames.mem (List.mem_filterMap.mpr ⟨env, he, hf⟩)).2
        rw [Nq.2.2] at ho; cases ho
  exact left_first K'.stack (funFrames_hide K'.frames hin) rfl (N _ (.head _)).1 (fun b o q => of_hideAll _ q) (hideAll_none _ (.head _)) rfl rfl ⟨rfl, rfl⟩ fun h' ⟨x1, ⟨_, _, x2⟩, x3, x4⟩ =>
    hQ h' ⟨d, _, tc, t1, t2, t3, st, sg, hl, x1, hideAll_none _ (.head _), x2, x3⟩ ((Heap.UpToSlots.of_keeps F.keep).trans x4)
theorem leave_next (K : Below A base outer g) (F : Fr g L g₂ m) (R : Flies w base g₂ (envOf name scope L a cd :: outer) e c news s'.heap) (hsm : g₂.UpToSlots s'.heap)
    (hQ : ∀ h', Flies w base g outer e c news h' → g.UpToSlots h' → Q () { s' with heap := h' }) :
    wpAny M (A.deeper (envOf name scope L a cd)) (leaving (envOf name scope L a cd) (.ref e)) Q E s' := by
  refine hideG ?_
  intro GG
  first | (refine and13 R ?_; clear R; intro d B tc t1 t2 t3 hB hBG hl f1 f2 f3 f4) | obtain ⟨d, B, tc, t1, t2, t3, hB, hBG, hl, f1, f2, f3, f4⟩ := R
  k_unfold
  exact left_next (Around.frames_deeper K.stack) f3 rfl f4 f1 f2 fun h' ⟨x1, ⟨_, _, x2⟩, x3, x4⟩ =>
    hQ h' ⟨d, B, tc, t1, t2, t3, hB, fun b o q nm => hBG b o (F.keep b o q) (fun hm => by
      rcases kts_mem hm with z | z
      · rw [z, kts_self F] at q
        cases q
      · exact nm z), fun q hq => ⟨(hl q hq).1, kts_none F.keep (hl q hq).2.1, (hl q hq).2.2⟩, x1, f2, x2, x3⟩ ((Heap.UpToSlots.of_keeps F.keep).trans (hsm.trans x4))
end
section
variable {prog : Program} {w : World} {A₀ : Around} {E : Value → Shared → Prop} {s' : Shared} {base g g₀ G : Heap} {outer : List Env} {L a e C : Addr} {m : Str → Option Value} {name : Str} {scope : Scope} {cd : Value} {c : Str}
  {n : Str} {b₀ : Stmt} {suite : List Stmt} {pos np : Pos} {rest : List ExceptHandler} {Q : Flow → Shared → Prop} {news : List (Addr × Obj)}
  {p : Program} {loose : List Str} {mean : ExcName → Option Value} {mg mb : Str → Option Value} {x : Str}
theorem caught_as (R : Flies w base G (envOf name scope L a cd :: outer) e c news s'.heap) (F : Fr g L G m) (K : Below A₀ base outer g) (hsm : G.UpToSlots s'.heap) (XB : Frag.In (hd.heap_39 w.params) base) (TB : Top p loose mean mg mb base)
    (D : KtsDicts (outer.filterMap (·.frame)) g) (T0 : KtsTurn (outer.filterMap (·.frame)) g₀ g)
    (ex : nsIn (hd.heap_39 w.params) mainGlobals x = some (some (.ref 34)))
    (k : ∀ h' g' oe d vs tc t1 t2 t3 tk, KtsTurn (outer.filterMap (·.frame)) g₀ g' → Fr g' L h' (fun y => if y = n then some (.ref e) else m y) → News g' L h' ((e, oe) :: (d, excDict w c tc t1 t2 t3) :: news) → IsExc d oe → oe.data = .fields vs → Below A₀ base outer g' → Frag.In (hd.heap_39 w.params) g' → Top p loose mean mg mb g' → KtsDicts (outer.filterMap (·.frame)) g' →
      wpAny (model prog w) ((A₀.deeper (envOf name scope L a cd)).mark (some (.ref e))) (execs (b₀ :: suite) (envOf name scope L a cd))
        (fun f s₄ => wpAny (model prog w) (A₀.deeper (envOf name scope L a cd)) (do bindName (envOf name scope L a cd) n .none; unbindBehindTheSuite (envOf name scope L a cd) n pos) (fun _ s₅ => Q f s₅) E s₄)
        (AsSuiteRaised (model prog w) ((A₀.deeper (envOf name scope L a cd)).mark (some (.ref e))) (envOf name scope L a cd) n pos (notedBy (model prog w) ((A₀.deeper (envOf name scope L a cd)).mark (some (.ref e))) (envOf name scope L a cd) (cameBackBy (model prog w) (A₀.deeper (envOf name scope L a cd)) (envOf name scope L a cd) E)))
        { s' with heap := h', toks := tk })
    (hk : scope.kind = .function := by rfl) (hlo : (envOf name scope L a cd).kindOf n = some .local := by rfl) (hx : (envOf name scope L a cd).kindOf x = some .globalImplicit := by rfl) (hdb : (x == ("__debug__" : Str)) = false := by decide) :
    wpAny (model prog w) (A₀.deeper (envOf name scope L a cd)) (noteFrame (.ref e) (envOf name scope L a cd))
      (fun _ s₂ => wpAny (model prog w) (A₀.deeper (envOf name scope L a cd)) (setFlight (.ref e) none) (fun _ s₃ =>
        wpAny (model prog w) (A₀.deeper (envOf name scope L a cd)) (handleBy (.ref e) (envOf name scope L a cd) (.ExceptHandler (some (.Name x np)) (some n) (b₀ :: suite) pos :: rest)) Q E s₃) E s₂) E s' := by
  refine hideG ?_
  intro GG
  first | (refine and13 R ?_; clear R; intro d B tc t1 t2 t3 hB hBG hl f1 f2 f3 f4) | obtain ⟨d, B, tc, t1, t2, t3, hB, hBG, hl, f1, f2, f3, f4⟩ := R
  k_unfold
  have hL : B.get? L = none := by
    obtain ⟨_, ⟨L', _, hf, hn', _⟩, _⟩ := f3
    obtain rfl : L = L' := Option.some.inj hf
    exact hn'
  refine note_next (Around.frames_deeper K.stack) f3 rfl f4 f1 f2 fun h₄ ⟨y1, y2, y3, hsm₄⟩ => ?_
  refine flight_off y1 y2 y3 fun h₅ ⟨z1, z2, z3, hsm₅'⟩ => ?_
  have hsm₅ := hsm₄.trans hsm₅'
  obtain ⟨g₅, T₅, F₅, K₅⟩ := kts_ground K F hBG z1 (hsm.trans hsm₅)
  have X₅ : Frag.In (hd.heap_39 w.params) g₅ := XB.keeps K₅.stays
  have P₅ : TopRead p loose mg mb g₅ := topRead_of (TB.keeps K₅.stays)
  obtain ⟨ob, hob, hobc⟩ : ∃ ob, h₅.get? e = some ob ∧ ob.cls = .ref 34 := by
    first | (refine and8 z3 ?_; clear z3; intro oe _ _ _ _ he hc _) | obtain ⟨oe, _, _, _, _, he, hc, _⟩ := z3
    exact ⟨oe, he, hc.1⟩
  have hC₅ := F₅.keep _ _ (exc_cls X₅)
  refine wpAny_handleBy_cons (codeAny_handlers_test (name_K F₅ X₅ P₅ ex ?_ hk hx hdb)) (by intro q; cases q)
  refine wpAny_excMatches_sub_self hC₅ hob hobc (by decide) (codeAny_handlers_suite_as ?_)
  refine flight_off z1 z2 z3 fun h₆ ⟨v1, v2, v3, hsm₆⟩ => ?_
  obtain ⟨g₆, T₆, F₆, K₆⟩ := kts_ground K F hBG v1 ((hsm.trans hsm₅).trans hsm₆)
  first | (refine and9 v3 ?_; clear v3; intro oe ws _ _ _ hoe hoec hoed _) | obtain ⟨oe, ws, _, _, _, hoe, hoec, hoed, _⟩ := v3
  have ne₆ : g₆.get? e = none := T₆.none_ _ (kts_fresh F hBG f2 fun o ho m => by
    obtain ⟨_, o', ho', hd⟩ := K.frames.mem m
    rw [ho] at ho'
    cases ho'
    obtain ⟨sl, hs⟩ := ((hsm.trans hsm₅).trans hsm₆) _ _ (F.keep _ _ ho) hd
    rw [hoe] at hs
    cases hs
    exact hd _ hoed)
  have N₆ := News.more F₆ News.nil hoe (fun es n q => by rw [hoed] at q; cases q) ne₆
  have Nl : News g₆ L h₆ ((d, excDict w c tc t1 t2 t3) :: news) := fun q hq => ⟨v1 _ _ (hl q hq).1, (fun z => by have := (hl q hq).1; rw [z, hL] at this; cases this), T₆.none_ _ (kts_none F.keep (hl q hq).2.1)⟩
  have X₆ : Frag.In (Mine.hd.heap_39 w.params) g₆ := XB.keeps K₆.stays
  have P₆ : Top p loose mean mg mb g₆ := TB.keeps K₆.stays
  have D₆ : KtsDicts (outer.filterMap (·.frame)) g₆ := D.turn T₆
  refine stN F₆ (news := (e, oe) :: (d, excDict w c tc t1 t2 t3) :: news) (fun q hq => by
    rcases List.mem_cons.mp hq with rfl | hq
    · exact N₆ _ (.head _)
    · exact Nl q hq) (fun h₇ F₇ N₇ => ?_) hk hlo
  exact k h₇ g₆ oe d ws tc t1 t2 t3 _ (T0.trans T₆) F₇ N₇ hoec hoed K₆ X₆ P₆ D₆
end
end Mine
end
section
open Sem (wp)
namespace Mine
section
variable {M : Model} {A : Around} {E : Value → Shared → Prop} {s : Shared} {env : Env}
theorem raise_made {x : Expr} {pos : Pos} {Q : Flow → Shared → Prop} (hh : A.handled = none)
    (h : wpAny M A (eval x env) (fun v s₁ => ∃ e d tp sl, v = .ref e ∧ s₁.heap.get? 34 = some excCls ∧ s₁.heap.get? e = some (excObj d tp sl) ∧ E (.ref e) s₁) E s) :
    wpAny M A (exec (.Raise (some x) none pos) env) Q E s := by
  have hcB : (Value.ref 34 :: [Value.type "Exception", .type "BaseException", .type "object"]).contains (.type "BaseException") = true := by decide
  show wpAny M A (do standAt pos; raiseStmt env (some (do let v ← eval x env; standAt pos; pure v)) none) Q E s
  refine wpAny_bind (wpAny_standAt ?_)
  unfold raiseStmt
  refine wpAny_bind (wpAny_bind (wpAny_mono h (fun v s₁ h₁ => wpAny_bind (wpAny_standAt (wpAny_pure ?_))) fun _ _ x => x))
  refine hideG ?_
  intro GG
  obtain ⟨e, d, tp, sl, rfl, hC, he, hE⟩ := h₁
  k_unfold
  first | (refine and5 s₁ ?_; clear s₁; intro hp g dd tk os) | obtain ⟨hp, g, dd, tk, os⟩ := s₁
  repeat (first | with_reducible refine wpAny_loadPart_at he ?_ | with_reducible refine wpAny_loadPart_at hC ?_ | (with_reducible refine wpAny_isSubtype_exc hC ?_; rw [hcB]) | wp_step)
  exact wpAny_raiseNew_none hh hE
end
section
variable {w : World} {A : Around} {s : Shared} {base g : Heap} {outer : List Env} {L a : Addr} {m : Str → Option Value} {name : Str} {scope : Scope} {cd : Value} {news : List (Addr × Obj)}
  {p : Program} {loose : List Str} {mean : ExcName → Option Value} {mg mb : Str → Option Value} {Q : Flow → Shared → Prop} {E1 E2 : Value → Shared → Prop} {c : Str} {np cp cpos pos : Pos} {kk : Nat}
theorem raise_leave (B : Below A base outer g) (F : Fr g L s.heap m) (X₀ : Frag.In (hd.heap_39 w.params) g) (N : News g L s.heap news) (T : Top p loose mean mg mb g) (hh : A.handled = none) (hdp : A.depth + 10 < recursionLimit)
    (h : ∀ e h' tk', Flies w base g outer e c news h' → g.UpToSlots h' → E1 (.ref e) { s with heap := h', toks := tk' })
    (hk : scope.kind = .function := by rfl) (hx : (envOf name scope L a cd).kindOf "BasicError" = some .globalImplicit := by rfl) :
    wpAny (model Challenge.pw_pf0012_01 w) (A.deeper (envOf name scope L a cd)) (exec (.Raise (some (.Call (.Name "BasicError" np) [.Constant (.str c) kk cp] [] cpos)) none pos) (envOf name scope L a cd)) Q
      (fun e s' => wpAny (model Challenge.pw_pf0012_01 w) (A.deeper (envOf name scope L a cd)) (leaving (envOf name scope L a cd) e) (fun _ s'' => E1 e s'') E2 s') s := by
  refine shed ?_ fun _ n h => ?_
  focus (
  refine raise_made hh ?_
  refine wpAny_Call_ofName (name_K F X₀ (topRead_of T) (v := .ref 34) (by with_unfolding_all rfl) ?_ hk hx (by decide))
  refine callWith_K X₀ (by with_unfolding_all rfl) ?_ rfl rfl
  k_steps
  refine mk_exc (s := { s with toks := s.toks + 1 }) B F X₀ N T (Around.frames_deeper B.stack) rfl hk ?_ ?_
  · show A.depth + 1 + 5 < recursionLimit
    omega
  intro e d tp sl t1 t2 t3 h' tk' F' N' hne hde
  refine ⟨e, d, tp, sl, rfl, exc_cls (X₀.keeps F'.keep), (N' _ (.head _)).1, ?_⟩
  exact leave_first B F' N' hne hde (fun h'' R U => h e h'' tk' R U) hk
  )
  simpa using pick n 5 h
end
end Mine
end
section
open Sem (wp)
namespace Mine
structure DW (t u : Tok) (k : Nat) (b d : Bool) (es : List DictEntry) : Prop where
  len : es.length ≤ k
  nr : es.any (·.refKey) = false
  bits : b = true → getL "bits" es = some (some (.int 16 t))
  digits : d = true → getL "digits" es = some (some (.int 6 u))
theorem dw_nil {t u : Tok} : DW t u 0 false false [] := ⟨Nat.le_refl _, rfl, nofun, nofun⟩
theorem dw_len (name : Str) (hsh : Int) (key v : Value) : ∀ es : List DictEntry, (putL name hsh key v es).length ≤ es.length + 1
  | [] => Nat.le_refl _
  | e :: r => by
    unfold putL
    cases e.key.isStr name with
    | true => exact Nat.le_succ _
    | false => exact Nat.succ_le_succ (dw_len name hsh key v r)
theorem dw_nr (name : Str) (hsh : Int) {key : Value} (v : Value) (hk : (DictEntry.mk hsh key v).refKey = false) : ∀ es : List DictEntry, es.any (·.refKey) = false → (putL name hsh key v es).any (·.refKey) = false
  | [], _ => by simp only [putL, List.any_cons, List.any_nil, hk, Bool.or_false]
  | e :: r, h => by
    simp only [List.any_cons, Bool.or_eq_false_iff] at h
    unfold putL
    cases e.key.isStr name with
    | true => simp only [if_true, List.any_cons, Bool.or_eq_false_iff]; exact ⟨h.1, h.2⟩
    | false => simp only [Bool.false_eq_true, if_false, List.any_cons, Bool.or_eq_false_iff]; exact ⟨h.1, dw_nr name hsh v hk r h.2⟩
theorem isStr_ne {v : Value} {a b : Str} (h : v.isStr a = true) (n : a ≠ b) : v.isStr b = false := by
  cases v with
  | str s _ =>
    have : s = a := by simpa [Value.isStr] using h
    subst this
    simpa [Value.isStr] using n
  | _ => simp [Value.isStr] at h
theorem find_put_ne {name other : Str} (hn : name ≠ other) (hsh : Int) (tk : Tok) (v : Value) : ∀ es : List DictEntry,
    ((putL name hsh (.str name tk) v es).find? (·.key.isStr other)).map (·.val) = (es.find? (·.key.isStr other)).map (·.val)
  | [] => by
    have : Value.isStr (.str name tk) other = false := isStr_ne (a := name) (by simp [Value.isStr]) hn
    simp [putL, List.find?_cons, this]
  | e :: r => by
    unfold putL
    cases h : e.key.isStr name with
    | true =>
      have := isStr_ne h hn
      simp [List.find?_cons, this]
    | false =>
      simp only [Bool.false_eq_true, if_false, List.find?_cons]
      cases e.key.isStr other with
      | true => rfl
      | false => exact find_put_ne hn hsh tk v r
theorem find_put_eq {name : Str} (hsh : Int) (tk : Tok) (v : Value) : ∀ es : List DictEntry,
    ((putL name hsh (.str name tk) v es).find? (·.key.isStr name)).map (·.val) = some v
  | [] => by simp [putL, List.find?_cons, Value.isStr]
  | e :: r => by
    unfold putL
    cases h : e.key.isStr name with
    | true => simp [List.find?_cons, h]
    | false =>
      simp only [Bool.false_eq_true, if_false, List.find?_cons, h]
      exact find_put_eq hsh tk v r
theorem getL_find {name : Str} {es : List DictEntry} (hr : es.any (·.refKey) = false) : getL name es = some ((es.find? (·.key.isStr name)).map (·.val)) := by
  unfold getL
  cases es.find? (·.key.isStr name) with
  | none => simp [hr]
  | some e => rfl
theorem DW.put {t u : Tok} {k : Nat} {b d : Bool} {es : List DictEntry} (W : DW t u k b d es) {name : Str} {hsh : Int} {tk : Tok} {v : Value} {b' d' : Bool}
    (hb : b' = true → (name = "bits" ∧ v = .int 16 t) ∨ (name ≠ "bits" ∧ b = true)) (hd : d' = true → (name = "digits" ∧ v = .int 6 u) ∨ (name ≠ "digits" ∧ d = true)) :
    DW t u (k + 1) b' d' (putL name hsh (.str name tk) v es) := by
  have hr := dw_nr name hsh (key := .str name tk) v rfl es W.nr
  refine ⟨Nat.le_trans (dw_len _ _ _ _ _) (Nat.succ_le_succ W.len), hr, fun h => ?_, fun h => ?_⟩
  · rw [getL_find hr]
    rcases hb h with ⟨rfl, rfl⟩ | ⟨hn, hb⟩
    · rw [find_put_eq]
    · rw [find_put_ne hn, ← getL_find W.nr, W.bits hb]
  · rw [getL_find hr]
    rcases hd h with ⟨rfl, rfl⟩ | ⟨hn, hd⟩
    · rw [find_put_eq]
    · rw [find_put_ne hn, ← getL_find W.nr, W.digits hd]
section
variable {prog : Program} {w : World} {A : Around} {E : Value → Shared → Prop} {s : Shared} {K : Frag} {x C d L : Addr} {h₀ : Heap} {m : Str → Option Value} {l r : List (Addr × Obj)} {es : List DictEntry} {n k : Nat} {name : Str} {v : Value} {t u : Tok} {b b' dd dd' : Bool}
theorem setw {Q : Unit → Shared → Prop} (F : Fr h₀ L s.heap m) (X₀ : K.In h₀) (N : News h₀ L s.heap l) (hx : (x, instObj C d) ∈ l) (hd : (d, dictOf es n) ∈ l) (hr : ∀ p ∈ r, p ∈ l) (hlt : d < x) (hrd : ∀ p ∈ r, p.1 < d)
    (W : DW t u k b dd es) (hk : k + 1 ≤ 1000) (hs : findIn K (.ref C) "__setattr__" = some (some (.builtin "object.__setattr__"))) (hp : plainOver K C = true) (ht : takerIn K C name = some none) (hh : hasDictIn K C = true)
    (hb : b' = true → (name = "bits" ∧ v = .int 16 t) ∨ (name ≠ "bits" ∧ b = true)) (hdd : dd' = true → (name = "digits" ∧ v = .int 6 u) ∨ (name ≠ "digits" ∧ dd = true))
    (h : ∀ h' es' n', DW t u (k + 1) b' dd' es' → Fr h₀ L h' m → News h₀ L h' ((x, instObj C d) :: (d, dictOf es' n') :: r) → Q () { s with heap := h', toks := s.toks + 2 }) :
    wpAny (model prog w) A (setAttr (.ref x) name v) Q E s := by
  have N' : News h₀ L s.heap ((x, instObj C d) :: (d, dictOf es n) :: r) := fun p hp => by
    rcases List.mem_cons.mp hp with rfl | hp
    · exact N _ hx
    rcases List.mem_cons.mp hp with rfl | hp
    · exact N _ hd
    · exact N _ (hr _ hp)
  have W' := W.put (name := name) (hsh := PyData.keyHash w.params name) (tk := s.toks + 1) (v := v) hb hdd
  refine set_dict F X₀ N' (InstAt.of_news N' (.head _) (.tail _ (.head _))) rfl hs hp ht hh ?_ rfl (.tail (Nat.ne_of_gt hlt) (.head fun p hp => Nat.ne_of_lt (hrd p hp))) (Nat.le_trans W'.len hk) fun h' F' N'' => h h' _ _ W' F' N''
  rw [getL_find W.nr]; rfl
theorem setw_o {Q : Unit → Shared → Prop} (F : Fr h₀ L s.heap m) (X₀ : K.In h₀) (N : News h₀ L s.heap l) (hx : (x, instObj C d) ∈ l) (hd : (d, dictOf es n) ∈ l) (hr : ∀ p ∈ r, p ∈ l) (hlt : d < x) (hrd : ∀ p ∈ r, p.1 < d)
    (W : DW t u k b dd es) (hk : (decide (k + 1 ≤ 1000) && !decide (name = "bits") && !decide (name = "digits")) = true) (hs : findIn K (.ref C) "__setattr__" = some (some (.builtin "object.__setattr__"))) (hp : plainOver K C = true) (ht : takerIn K C name = some none) (hh : hasDictIn K C = true)
    (h : ∀ h' es' n', DW t u (k + 1) b dd es' → Fr h₀ L h' m → News h₀ L h' ((x, instObj C d) :: (d, dictOf es' n') :: r) → Q () { s with heap := h', toks := s.toks + 2 }) :
    wpAny (model prog w) A (setAttr (.ref x) name v) Q E s := by
  simp only [Bool.and_eq_true, decide_eq_true_eq, Bool.not_eq_true', decide_eq_false_iff_not] at hk
  exact setw F X₀ N hx hd hr hlt hrd W hk.1.1 hs hp ht hh (fun h => .inr ⟨hk.1.2, h⟩) (fun h => .inr ⟨hk.2, h⟩) h
theorem setw_b {Q : Unit → Shared → Prop} (F : Fr h₀ L s.heap m) (X₀ : K.In h₀) (N : News h₀ L s.heap l) (hx : (x, instObj C d) ∈ l) (hd : (d, dictOf es n) ∈ l) (hr : ∀ p ∈ r, p ∈ l) (hlt : d < x) (hrd : ∀ p ∈ r, p.1 < d)
    (W : DW t u k b dd es) (hk : decide (k + 1 ≤ 1000) = true) (hs : findIn K (.ref C) "__setattr__" = some (some (.builtin "object.__setattr__"))) (hp : plainOver K C = true) (ht : takerIn K C "bits" = some none) (hh : hasDictIn K C = true)
    (h : ∀ h' es' n', DW t u (k + 1) true dd es' → Fr h₀ L h' m → News h₀ L h' ((x, instObj C d) :: (d, dictOf es' n') :: r) → Q () { s with heap := h', toks := s.toks + 2 }) :
    wpAny (model prog w) A (setAttr (.ref x) "bits" (.int 16 t)) Q E s :=
  setw F X₀ N hx hd hr hlt hrd W (of_decide_eq_true hk) hs hp ht hh (fun _ => .inl ⟨rfl, rfl⟩) (fun h => .inr ⟨by decide +kernel, h⟩) h
theorem setw_d {Q : Unit → Shared → Prop} (F : Fr h₀ L s.heap m) (X₀ : K.In h₀) (N : News h₀ L s.heap l) (hx : (x, instObj C d) ∈ l) (hd : (d, dictOf es n) ∈ l) (hr : ∀ p ∈ r, p ∈ l) (hlt : d < x) (hrd : ∀ p ∈ r, p.1 < d)
    (W : DW t u k b dd es) (hk : decide (k + 1 ≤ 1000) = true) (hs : findIn K (.ref C) "__setattr__" = some (some (.builtin "object.__setattr__"))) (hp : plainOver K C = true) (ht : takerIn K C "digits" = some none) (hh : hasDictIn K C = true)
    (h : ∀ h' es' n', DW t u (k + 1) b true es' → Fr h₀ L h' m → News h₀ L h' ((x, instObj C d) :: (d, dictOf es' n') :: r) → Q () { s with heap := h', toks := s.toks + 2 }) :
    wpAny (model prog w) A (setAttr (.ref x) "digits" (.int 6 u)) Q E s :=
  setw F X₀ N hx hd hr hlt hrd W (of_decide_eq_true hk) hs hp ht hh (fun h => .inr ⟨by decide +kernel, h⟩) (fun _ => .inl ⟨rfl, rfl⟩) h
end
end Mine
end
section
open Sem (wp)
namespace Mine
theorem OW1.gdW1 : True := trivial
open OW1
theorem wd_W1_2 : True := by (k_with "execs cons" => (k_here; (with_reducible show wpAny _ _ (execs (_ :: _) _) _ _ _); (try k_made); (with_reducible rename Fr _ _ _ _ => kFq); (with_reducible rename News _ _ _ _ => kNq); (refine execsX kFq kNq ?_); intro _ _ _ _ _ _ _ _; (try k_sweep))); (k_with "execs cons" => (k_here; (with_reducible show wpAny _ _ (execs (_ :: _) _) _ _ _); (fail_if_success (with_reducible refine gGq GI.z ?_)); (try k_made); k_dflt (refine' withG ?_ ?_ ?_ ?_; rotate_right 4; (k_asm); (k_asm); (rfl); k_whole); intro _ _ _ gGq)); (k_with "exec Assign" => (k_here; refine Assign_NameF ?_)); (k_with "exec Return some" => (k_here; refine Return_someF ?_)); (k_with "eval BinOp" => (first | (k_here; k_compRoot) | refine BinOpF ?_)); (k_with "eval Subscript" => (first | (k_here; k_compRoot) | refine SubscriptF ?_)); (k_with "eval List" => (first | (k_here; k_compRoot) | refine ListF ?_)); (k_with "eval Tuple" => (first | (k_here; k_compRoot) | refine TupleF ?_)); (k_with "callWith" => (refine callWith_biF ?_)); (k_with "eval Name" => (k_here; (fail_if_success (with_reducible show wpAny _ _ (eval (PySem.Expr.Name _ _) (compEnvC _ _ _ _)) _ _ _)); name_kind "local"; (with_reducible refine' gGq GI.l ?_ ?_ ?_ ?_; rotate_right 4); k_dflt ((rotate_left 1; (kernel_rfl); rotate_right 1); (k_asm); (focus ((((repeat (first | with_reducible exact nm_hit | ((with_reducible refine Eq.trans (nm_miss ?_) ?_; kernel_rfl)))); (try rfl))); done)); k_whole))); (k_with "storeName" => (k_here; (first | ((with_reducible refine' gGq GI.s ?_ ?_ ?_ ?_; rotate_right 4)) | ((with_reducible refine' gGq GI.u ?_ ?_ ?_ ?_; rotate_right 4))); k_dflt ((rotate_left 2; (kernel_rfl!); rotate_right 2); (k_asm); (k_asm); k_whole; intro _ _ _ _ _; (try k_sweep)))); (k_with "spliced" => (k_here; (with_reducible show wpAny _ _ (spliced (backTo _ (starEach (PySem.Expr.Name _ _ :: _) _))) _ _ _); (with_reducible refine' gGq GI.a ?_ ?_ ?_ ?_; rotate_right 4); k_dflt ((rotate_left 1; (kernel_rfl); rotate_right 1); (k_asm); (focus ((((repeat (first | with_reducible exact nm_hit | ((with_reducible refine Eq.trans (nm_miss ?_) ?_; kernel_rfl)))); (try rfl))); done)); k_whole))); (k_with "spliced" => (k_here; (with_reducible show wpAny _ _ (spliced (backTo _ (starEach (PySem.Expr.Constant _ _ _ :: _) _))) _ _ _); (first | with_reducible refine gGq GI.i ?_ | with_reducible refine gGq GI.t ?_))); (k_with "spliced" => (k_here; (with_reducible show wpAny _ _ (spliced (backTo _ (starEach [] _))) (KCons _ _) _ _); k_dflt (first | ((with_reducible refine' gGq GI.n1 ?_ ?_ ?_; rotate_right 3; (k_asm); (k_asm))) | ((with_reducible refine' gGq GI.n2 ?_ ?_ ?_; rotate_right 3; (k_asm); (k_asm))) | ((with_reducible refine' gGq GI.n3 ?_ ?_ ?_; rotate_right 3; (k_asm); (k_asm))) | ((with_reducible refine' gGq GI.n4 ?_ ?_ ?_; rotate_right 3; (k_asm); (k_asm))) | with_reducible refine gGq GI.b1 ?_ | with_reducible refine gGq GI.b2 ?_ | with_reducible refine gGq GI.l1 ?_ | with_reducible refine gGq GI.l2 ?_ | with_reducible refine gGq GI.l3 ?_ | with_reducible refine gGq GI.t1 ?_ | with_reducible refine gGq GI.t2 ?_ | with_reducible refine gGq GI.t3 ?_))); (k_with "eval Call" => (k_here; (with_reducible show wpAny _ _ (eval (PySem.Expr.Call (PySem.Expr.Name _ _) (_ :: _) [] _) _) _ _ _); k_dflt (first | (((with_reducible refine' gGq GI.k ?_ ?_ ?_ ?_ ?_ ?_ ?_ ?_; rotate_right 8); (rotate_left 3; (kernel_rfl); rotate_right 3); (k_asm); (k_asm); (k_asm); (focus ((k_is); done)); (focus ((k_is); done)); (rfl); k_whole)) | (((fail_if_success (with_reducible first | show wpAny _ _ (eval (PySem.Expr.Call (PySem.Expr.Name (PySem.Str.ofString "range") _) _ _ _) _) _ _ _ | show wpAny _ _ (eval (PySem.Expr.Call (PySem.Expr.Name (PySem.Str.ofString "str") _) _ _ _) _) _ _ _ | show wpAny _ _ (eval (PySem.Expr.Call (PySem.Expr.Name (PySem.Str.ofString "enumerate") _) _ _ _) _) _ _ _ | show wpAny _ _ (eval (PySem.Expr.Call (PySem.Expr.Name (PySem.Str.ofString "list") _) _ _ _) _) _ _ _ | show wpAny _ _ (eval (PySem.Expr.Call (PySem.Expr.Name (PySem.Str.ofString "int") _) _ _ _) _) _ _ _ | show wpAny _ _ (eval (PySem.Expr.Call (PySem.Expr.Name (PySem.Str.ofString "tuple") _) _ _ _) _) _ _ _)); (with_reducible refine' gGq GI.b ?_ ?_ ?_ ?_ ?_ ?_ ?_ ?_ ?_; rotate_right 9); (rotate_left 3; (kernel_rfl); rotate_right 3); (k_asm); (k_asm); (k_asm); (focus ((k_is); done)); (focus ((boot_fast); done)); (decide +kernel); (rfl); k_whole))))); trivial
theorem wd_W1_3 : True := by (k_with "setAttr ref" => ((fail_if_success (fail_if_success (have : True := gdW1))); ((k_here; k_dflt (first | (((with_reducible show wpAny _ _ (setAttr _ (Str.ofString "bits") _) _ _ _); refine' setw_b ?_ ?_ ?_ ?_ ?_ ?_ ?_ ?_ ?_ ?_ ?_ ?_ ?_ ?_ ?_; rotate_right 15; (k_asm); (k_asm); (k_asm); (focus ((k_mem); done)); (focus ((k_mem); done)); (rotate_left 1; (assumption); rotate_right 1); (rotate_left 1; (assumption); rotate_right 1); (focus (((intro q hq; repeat (first | exact hq | apply List.Mem.tail))); done)); (assumption); (decide +kernel); (focus ((k_is); done)); (focus ((k_is); done)); (focus ((k_is); done)); (focus ((k_is); done)); k_whole; intro h' es' n' W' F' N'; (try k_sweep))) | (((with_reducible show wpAny _ _ (setAttr _ (Str.ofString "digits") _) _ _ _); refine' setw_d ?_ ?_ ?_ ?_ ?_ ?_ ?_ ?_ ?_ ?_ ?_ ?_ ?_ ?_ ?_; rotate_right 15; (k_asm); (k_asm); (k_asm); (focus ((k_mem); done)); (focus ((k_mem); done)); (rotate_left 1; (assumption); rotate_right 1); (rotate_left 1; (assumption); rotate_right 1); (focus (((intro q hq; repeat (first | exact hq | apply List.Mem.tail))); done)); (assumption); (decide +kernel); (focus ((k_is); done)); (focus ((k_is); done)); (focus ((k_is); done)); (focus ((k_is); done)); k_whole; intro h' es' n' W' F' N'; (try k_sweep))) | ((refine' setw_o ?_ ?_ ?_ ?_ ?_ ?_ ?_ ?_ ?_ ?_ ?_ ?_ ?_ ?_ ?_; rotate_right 15; (k_asm); (k_asm); (k_asm); (focus ((k_mem); done)); (focus ((k_mem); done)); (rotate_left 1; (assumption); rotate_right 1); (rotate_left 1; (assumption); rotate_right 1); (focus (((intro q hq; repeat (first | exact hq | apply List.Mem.tail))); done)); (assumption); (decide +kernel); (focus ((k_is); done)); (focus ((k_is); done)); (focus ((k_is); done)); (focus ((k_is); done)); k_whole; intro h' es' n' W' F' N'; (try k_sweep)))))))); trivial
theorem mk_world {w : World} {p : Program} {loose : List Str} {mean : ExcName → Option Value} {mg mb : Str → Option Value} {A A₀ : Around} {s : Shared} {base h₀ : Heap} {L : Addr} {m : Str → Option Value} {news : List (Addr × Obj)} {env : Env} {outer : List Env} {t u : Tok} {Q E : Value → Shared → Prop}
   (B : Below A₀ base outer h₀) (F : Fr h₀ L s.heap m) (X₀ : Frag.In (hd.heap_39 w.params) h₀) (N : News h₀ L s.heap news) (T : Top p loose mean mg mb h₀) (hA : A.frames = some (env :: outer)) (hf : env.frame = some L) (hke : env.scope.kind = .function)
   (hdp : A.depth + 5 < recursionLimit)
   (hQ : ∀ (e d : Addr) (es : List DictEntry) (n : Nat) (h' : Heap) (tk' : Nat), Fr h₀ L h' m → News h₀ L h' ((e, W.instObj 372 d) :: (d, dictOf es n) :: news) → getL "bits" es = some (some (.int 16 t)) → getL "digits" es = some (some (.int 6 u)) → Q (.ref e) { s with heap := h', toks := tk' }) :
   wpAny (model Challenge.pw_pf0012_01 w) A (call (.ref 372) [.int 16 t, .int 6 u]) Q E s := by
  refine shed ?_ fun _ n h => ?_
  focus (
  refine' call_cls ?k1 ?k2 ?k3 ?k4 ?k5 ?k6 ?_; (case k1 => k_asm); (case k2 => k_asm); (case k3 => k_asm); (case k4 => k_is); (case k5 => k_is); (case k6 => k_is); k_whole; intro x' d' h' F' N' l1 l2; have W' : DW t u 0 false false [] := dw_nil
  refine' code_def ?k1 ?k2 ?k3 ?k4 ?k5 ?kA ?kF ?kK ?k6 ?k7 ?k8 ?k9 ?kB ?_ ?c2 ?c3 ?c4 ?c5; (case kA => exact hA); (case kF => exact hf); (case kK => exact hke); (case k1 => k_asm); (case k2 => k_asm); (case k3 => k_asm); (case k4 => k_asm); (case k5 => k_asm); (case k6 => k_is); (case k7 => k_is); (case k8 => (show A.depth + 1 < _; omega)); (case k9 => exact binds_K (by k_in) rfl (by k_is) rfl rfl rfl); (case c5 => decide); (case kB => exact locs rfl); (case c2 => exact rfl); (case c3 => exact rfl); (case c4 => exact rfl); k_whole; intro g' L' h' FG' F' N' B' X' T'; (try dsimp only); (try k_lift B'); (try k_fold)
  k_steps
  (rename Fr _ _ _ _ => kF)
  (rename News _ _ _ _ => kN)
  (rename DW _ _ _ _ _ _ => kW)
  exact hQ x' d' _ _ _ _ kF kN (kW.bits rfl) (kW.digits rfl)
  )
  simpa using pick n 5 h
end Mine
end
section
open Sem (wp)
namespace Mine
section
variable {prog : Program} {w : World} {A : Around} {E : Value → Shared → Prop} {K : Frag} {h : Heap} {g : Array GenState} {d : Drawn} {t : Nat} {os : OsState} {e : Addr} {oe od : Obj} {name : Str} {v : Value}
theorem exc_attr {expr : Bool} {Q : Value → Shared → Prop} (X : K.In h) (I : InstAt h e oe 34 (some od)) (hC : h.get? 34 = some excCls) (hga : findIn K (.ref 34) "__getattribute__" = some (some (.builtin "BaseException.__getattribute__")))
    (hgn : findIn K (.ref 34) "__getattr__" = some none) (hf : findObj K 34 (some od) name = some (.value v)) (hh : handedIn v = true) (hq : Q v ⟨h, g, d, t + 1, os⟩) :
    wpAny (model prog w) A (getAttr (.ref e) name expr) Q E ⟨h, g, d, t, os⟩ := by
  have L0 := I.type (M := model prog w)
  have L1 := looks_find (M := model prog w) X I hf
  have L2 := looks_findIn (M := model prog w) X hga
  have L3 := looks_findIn (M := model prog w) X hgn
  have hx0 : (expr && onTheHeap (Value.builtin "BaseException.__getattribute__")) = false := by cases expr <;> rfl
  have hx2 : (Value.builtin "BaseException.__getattribute__" == Value.builtin "object.__getattribute__") = false := by decide +kernel
  have hx1 : (onTheHeap (Value.ref 34) && Value.builtin "BaseException.__getattribute__" == Value.builtin "object.__getattribute__") = false := by rw [hx2]; rfl
  have f3 := PySem.F.attrBase_Exception.ga.bind (.ref e)
  have hk : builtinKind "BaseException.__getattribute__" = some .slot := by decide +kernel
  have hsplit : splitId "BaseException.__getattribute__" = some ("BaseException", "__getattribute__") := by decide +kernel
  have ha := F.args_bexc_ga (.ref e) (.str name t)
  have hcB : (Value.ref 34 :: [Value.type "Exception", .type "BaseException", .type "object"]).contains (.type "BaseException") = true := by decide
  have hx := I.at_
  have hc := I.cls
  unfold getAttr getAttrBy
  refine wpAny_bind (wpAny_mkText (wpAny_holding (wpAny_bind (L0.at (wpAny_bind (L2.at ?_))))))
  dsimp only
  rw [hx1]
  show wpAny _ _ (getAttrByItsOwn _ _ _ _ _ _) _ _ _
  unfold getAttrByItsOwn hookBefore callGetattribute
  refine wpAny_bind ((show Looks (model prog w) h (if onTheHeap (.ref 34) then typeLookup (.ref 34) "__getattr__" else pure none) none from L3).at ?_)
  rw [hx0]
  refine wpAny_bind (wpAny_attempt (wpAny_holding ?_))
  show wpAny _ _ (boundAndCalled _ _ _) _ _ _
  unfold boundAndCalled
  refine wpAny_bind (wpAny_of_eq f3 ?_)
  refine wpAny_call (codeAny_call_builtin PySem.F.attrBase_Exception.ga.plain F.entry_bexc_ga ?_)
  simp only [checkBuiltinCall, hk, hsplit]
  refine wpAny_bind ?_
  unfold isInstance
  have hho : handedOut v = pure v := handedOut_of hh
  repeat (first | (with_reducible refine L1.at ?_) | (with_reducible refine wpAny_loadPart_at hx ?_; rw [hc]) | (with_reducible refine wpAny_isSubtype_exc hC ?_; rw [hcB]) | wp_step)
  all_goals exact hq
end
end Mine
end
section
namespace Mine
inductive Out where
  | val (R : Tok → Value)
  | err (c : Str)
noncomputable def Out.told : Out → Tok → Value
  | .val R => R
  | .err c => fun t => .str ("error " ++ c) t
noncomputable def Out.fits : Out → Prop
  | .val _ => True
  | .err c => c.length ≤ 100
noncomputable abbrev Ends := Heap → List Env → Heap → Addr → (Str → Option Value) → Shared → (Value → Shared → Prop) → (Value → Shared → Prop) → Prop
noncomputable abbrev Ct (w : World) (mean : ExcName → Option Value) (mg mb : Str → Option Value) (f : Addr) (D : Nat) (news : List (Addr × Obj)) (pre : Prop) (vs : List Value) (ret : Ends) : Prop :=
  ∀ (dp un : Nat) (gd : Option (List Code)) (cn : Str) (cs : Scope) (a : Addr) (ccd : Value) (cl : List (Str × Addr)) (outer : List Env) (A₀ : Around) (base h₀ : Heap) (L : Addr) (m : Str → Option Value) (s : Shared) (Q E : Value → Shared → Prop),
    Below A₀ base outer h₀ → Fr h₀ L s.heap m → Frag.In (hd.heap_39 w.params) h₀ → News h₀ L s.heap news → Top hd.view_39 (looseW hd.view_39 [Str.ofString "BasicError"]) mean mg mb h₀ → cs.kind = .function →
    pre → dp + D < recursionLimit → un + 10 * D < cLine → ret base (envX cn cs L a ccd cl :: outer) h₀ L m s Q E →
      wpAny (model Challenge.pw_pf0012_01 w) (ktrTop dp un gd cn cs L a ccd cl outer) (call (.ref f) vs) Q E s
noncomputable abbrev RetV (news : List (Addr × Obj)) (R : Tok → Value) : Ends := fun _ _ h₀ L m s Q _ =>
  ∀ (t : Tok) (h' : Heap) (tk' : Nat), Fr h₀ L h' m → News h₀ L h' news → Q (R t) { s with heap := h', toks := tk' }
noncomputable abbrev RetX (w : World) (news : List (Addr × Obj)) (c : Str) : Ends := fun base envs h₀ L m s _ E =>
  ∀ (e : Addr) (G h' : Heap) (tk' : Nat), Fr h₀ L G m → Flies w base G envs e c news h' → G.UpToSlots h' → E (.ref e) { s with heap := h', toks := tk' }
noncomputable abbrev RetO (w : World) (news : List (Addr × Obj)) : Out → Ends
  | .val R => RetV news R
  | .err c => RetX w news c
theorem ret_if {w : World} {news : List (Addr × Obj)} {P : Prop} [Decidable P] {R : Tok → Value} {c : Str} {base : Heap} {envs : List Env} {h₀ : Heap} {L : Addr} {m : Str → Option Value} {s : Shared} {Q E : Value → Shared → Prop}
    (h : RetO w news (if P then .val R else .err c) base envs h₀ L m s Q E) : (P → RetV news R base envs h₀ L m s Q E) ∧ (¬ P → RetX w news c base envs h₀ L m s Q E) :=
  ⟨fun p => by rw [if_pos p] at h; exact h, fun p => by rw [if_neg p] at h; exact h⟩
theorem end_str {h₀ h' : Heap} {L : Addr} {m : Str → Option Value} {news : List (Addr × Obj)} {s : Shared} {Q : Value → Shared → Prop} {P : Prop} {x y : Str} {t : Tok} {tk' : Nat}
    (hret : P → ∀ (t : Tok) (h' : Heap) (tk' : Nat), Fr h₀ L h' m → News h₀ L h' news → Q (.str x t) { s with heap := h', toks := tk' }) (p : P) (e : y = x) (F : Fr h₀ L h' m) {news' : List (Addr × Obj)} (N : News h₀ L h' news') (hs : ∀ p ∈ news, p ∈ news') : Q (.str y t) { s with heap := h', toks := tk' } := by
  subst e
  exact hret p t h' tk' F (kst_newsOf N hs)
theorem end_int {h₀ h' : Heap} {L : Addr} {m : Str → Option Value} {news : List (Addr × Obj)} {s : Shared} {Q : Value → Shared → Prop} {P : Prop} {x y : Int} {t : Tok} {tk' : Nat}
    (hret : P → ∀ (t : Tok) (h' : Heap) (tk' : Nat), Fr h₀ L h' m → News h₀ L h' news → Q (.int x t) { s with heap := h', toks := tk' }) (p : P) (e : y = x) (F : Fr h₀ L h' m) {news' : List (Addr × Obj)} (N : News h₀ L h' news') (hs : ∀ p ∈ news, p ∈ news') : Q (.int y t) { s with heap := h', toks := tk' } := by
  subst e
  exact hret p t h' tk' F (kst_newsOf N hs)
theorem news_cons {h₀ h : Heap} {L : Addr} {p : Addr × Obj} {news : List (Addr × Obj)} (N : News h₀ L h news) (hp : p ∈ news) : News h₀ L h (p :: news) := fun q hq => by
  rcases List.mem_cons.mp hq with rfl | hq
  · exact N _ hp
  · exact N _ hq
theorem news_tail {h₀ h : Heap} {L : Addr} {p : Addr × Obj} {news : List (Addr × Obj)} (N : News h₀ L h (p :: news)) : News h₀ L h news := fun q hq => N q (.tail _ hq)
theorem flies_sub {w : World} {base G : Heap} {l : List Env} {e : Addr} {c : Str} {news news' : List (Addr × Obj)} {h : Heap} (R : Flies w base G l e c news h) (hs : ∀ p ∈ news', p ∈ news) : Flies w base G l e c news' h := by
  first | (refine and10 R ?_; clear R; intro d B tc t1 t2 t3 a1 a2 a3 a4) | obtain ⟨d, B, tc, t1, t2, t3, a1, a2, a3, a4, a5, a6, a7⟩ := R
  refine ⟨d, B, tc, t1, t2, t3, a1, a2, fun q hq => a3 q ?_, a4, a5, a6, a7⟩
  rcases List.mem_cons.mp hq with rfl | hq
  · exact .head _
  · exact .tail _ (hs _ hq)
noncomputable abbrev Cs (w : World) (mean : ExcName → Option Value) (mg mb : Str → Option Value) (f : Addr) (D : Nat) (news : List (Addr × Obj)) (pre : Prop) (vs : List Value) (R : Tok → Value) : Prop :=
  ∀ (dp un : Nat) (gd : Option (List Code)) (cn : Str) (cs : Scope) (a : Addr) (ccd : Value) (cl : List (Str × Addr)) (outer : List Env) (A₀ : Around) (base h₀ g₀ : Heap) (L : Addr) (m : Str → Option Value) (s : Shared) (Q E : Value → Shared → Prop),
    Below A₀ base outer h₀ → Fr h₀ L s.heap m → Frag.In (hd.heap_39 w.params) h₀ → News h₀ L s.heap news → Top hd.view_39 (looseW hd.view_39 [Str.ofString "BasicError"]) mean mg mb h₀ → cs.kind = .function →
    Frag.In (hd.heap_39 w.params) base → Top hd.view_39 (looseW hd.view_39 [Str.ofString "BasicError"]) mean mg mb base → KtsDicts (outer.filterMap (·.frame)) h₀ → KtsTurn (outer.filterMap (·.frame)) g₀ h₀ →
    pre → dp + D < recursionLimit → un + 10 * D < cLine →
    (∀ (t : Tok) (h₀' h' : Heap) (tk' : Nat), KtsTurn (outer.filterMap (·.frame)) g₀ h₀' → Fr h₀' L h' m → News h₀' L h' news → Below A₀ base outer h₀' → Frag.In (hd.heap_39 w.params) h₀' → Top hd.view_39 (looseW hd.view_39 [Str.ofString "BasicError"]) mean mg mb h₀' → KtsDicts (outer.filterMap (·.frame)) h₀' →
      Q (R t) { s with heap := h', toks := tk' }) →
      wpAny (model Challenge.pw_pf0012_01 w) (ktrTop dp un gd cn cs L a ccd cl outer) (call (.ref f) vs) Q E s
end Mine
end
section
namespace Mine
noncomputable def PoolIs (w : World) (o : Obj) (cl : Addr) (k : Int) : Prop := ∃ t, o.IsDictOf (strKind Challenge.pw_pf0012_01 w) [(Str.ofString "cells", .ref cl), (Str.ofString "count", .int k t)]
end Mine
end
section
open PySem.Spec
namespace Mine
open PyProof.Rows.LCg (NsObj ns_obj lst lst_snoc Off3 Off1 CompEnd fr_but news_but)
noncomputable abbrev testsOf (ifs : List Expr) (env : Env) : Sem Bool := forIn ifs true fun c r => if r = true then do let ok ← isTrue c env (eval c env); pure (ForInStep.yield ok) else pure (ForInStep.yield r)
noncomputable def Turn (prog : Program) (w : World) (A : Around) (h₀ : Heap) (L : Addr) (m : Str → Option Value) (env : Env) (elt : Expr) (x : Str) (ifs : List Expr) (scope : Scope) (cl : List (Str × Addr)) (s : Shared) (S : List (Addr × Obj) → Prop) (P : Nat → Value → Prop)
    (Inv : Nat → List Value → List (Addr × Obj) → Prop) (n : Nat) : Prop :=
  ∀ i ys nw v I oI C oC D m₂ h tk (E' : Value → Shared → Prop), i < n → Inv i ys nw → S nw → P i v → NsObj oC m₂ → m₂ x = some v → Fr h₀ L h m → News h₀ L h ((I, oI) :: (C, oC) :: (D, lst ys) :: nw) → Off3 I C D nw → ((@Ne Nat I C) ∧ (@Ne Nat I D) ∧ (@Ne Nat C D)) →
    wpAny (model prog w) A (testsOf ifs (compEnvC scope cl C env)) (fun ok s₃ => if ok = true
      then wpAny (model prog w) A (eval elt (compEnvC scope cl C env)) (CompEnd h₀ L m { s with heap := h, toks := tk } I oI C oC D (lst ys) S (fun y nw' => Inv (i + 1) (ys ++ [y]) nw')) E' s₃
      else CompEnd h₀ L m { s with heap := h, toks := tk } I oI C oC D (lst ys) S (fun _ nw' => Inv (i + 1) ys nw') .none s₃) E' { s with heap := h, toks := tk }
section
variable {prog : Program} {w : World} {A : Around} {E : Value → Shared → Prop} {s : Shared} {h₀ : Heap} {L : Addr} {m : Str → Option Value} {env : Env}
theorem ite_f {p q : Prop} (h : if false = true then p else q) : q := by simpa using h
theorem ite_t {p q : Prop} (h : if true = true then p else q) : p := by simpa using h
theorem ite_fi {p q : Prop} (h : q) : if false = true then p else q := by simpa using h
theorem ite_ti {p q : Prop} (h : p) : if true = true then p else q := by simpa using h
inductive CLoop (h₀ : Heap) (L : Addr) (m : Str → Option Value) (I C D : Addr) (n : Nat) (St : Nat → Heap → Prop) (S : List (Addr × Obj) → Prop) (Inv : Nat → List Value → List (Addr × Obj) → Prop) (s₂ : Shared) : Nat → Shared → Prop
  | mk (h' : Heap) (tk i : Nat) (ys : List Value) (m' : Str → Option Value) (news' : List (Addr × Obj)) (hi : i ≤ n) (st : St i h') (F : Fr h₀ L h' m) (N : h'.Ns C m') (W : News h₀ L h' ((D, lst ys) :: news')) (off : Off3 I C D news') (s : S news') (r : Inv i ys news') :
    CLoop h₀ L m I C D n St S Inv s₂ (n + 1 - i) { s₂ with heap := h', toks := tk }
theorem block_inv {elt iter : Expr} {x : Str} {px : Pos} {ifs : List Expr} {scope : Scope} {cl : List (Str × Addr)} {pos : Pos} {s₂ : Shared} {I : Addr} {fp : List Addr} {n : Nat} {P : Nat → Value → Prop} {St : Nat → Heap → Prop} {S : List (Addr × Obj) → Prop} {news : List (Addr × Obj)}
    {Inv : Nat → List Value → List (Addr × Obj) → Prop} {RR : Value → Addr → Result → Shared → Prop}
    (W : Walks prog w A I fp [I] n P St) (hsz : n ≤ sizeLine) (hIo : ∀ i h, St i h → ∃ o, h.get? I = some o)
    (hSt : ∀ i h h' o nw, St i h → h.get? I = some o → h'.get? I = some o → (∀ b o, h₀.get? b = some o → h'.get? b = some o) → News h₀ L h' nw → S nw → St i h')
    (hcell : ∀ y ∈ scope.names, y.2 ≠ .cell) (hkind : scope.kind = .function) (hx : scope.names.lookup x = some .local) (hst : St 0 s₂.heap) (hfp : ∀ b ∈ fp, b < s₂.heap.objs.size)
    (F : Fr h₀ L s₂.heap m) (N : News h₀ L s₂.heap news) (hIL : L ≠ I) (hI₀ : h₀.get? I = none) (off : ∀ p ∈ news, p.1 ≠ I) (hS : S news)
    (hlen : ∀ i ys nw, Inv i ys nw → ys.length ≤ i) (h0 : Inv 0 [] news)
    (turn : Turn prog w A h₀ L m env elt x ifs scope cl s₂ S P Inv n)
    (hRR : ∀ D C h tk m' ys news', Fr h₀ L h m → News h₀ L h ((D, lst ys) :: news') → Off1 D news' → h.Ns C m' → h₀.get? C = none → h₀.get? D = none → C ≠ L → D ≠ L → C ≠ D → (∀ p ∈ news', p.1 ≠ C) → S news' → Inv n ys news' → RR (.ref D) C (.ok .next) { s₂ with heap := h, toks := tk }) :
    wpAny (model prog w) A (newList []) (fun acc s₃ => wpAny (model prog w) A (newFunctionEnv scope env.globals cl [] env.qual none .none (some env)) (fun cenv s₄ =>
      codeAny (model prog w) A (.compStart (.ListComp elt [⟨.Name x px, iter, ifs, 0⟩] scope pos) 0 (.ref I) acc { cenv with scope := relabel scope env }) (RR acc cenv.locals) s₄) E s₃) E s₂ := by
  refine wpAny_newObj_type (wpAny_newFunctionEnv hcell (by intro y hy; simp at hy) (fun h₁ hns₁ hsb₁ => ?_) hkind)
  dsimp only at hns₁ hsb₁ ⊢
  generalize hH2 : s₂.heap.push { cls := .type "list", dict := none, data := .seq ([] : List Value).toArray } = H2 at hns₁ hsb₁ ⊢
  have hC : H2.objs.size = s₂.heap.objs.size + 1 := by rw [← hH2, Heap.size_push]
  have hDC : s₂.heap.objs.size ≠ H2.objs.size := by rw [hC]; exact Nat.ne_of_lt (Nat.lt_succ_self _)
  have below : ∀ b, b < s₂.heap.objs.size → b ≠ H2.objs.size ∧ b ≠ s₂.heap.objs.size := fun b hb => ⟨by rw [hC]; exact Nat.ne_of_lt (Nat.lt_succ_of_lt hb), Nat.ne_of_lt hb⟩
  have hDf : s₂.heap.objs.size ∉ fp := fun hm => Nat.lt_irrefl _ (hfp _ hm)
  have hCf : H2.objs.size ∉ fp := fun hm => by have := hfp _ hm; rw [hC] at this; exact Nat.lt_irrefl _ (Nat.lt_of_succ_lt this)
  have hIf : I ∈ fp := W.sub I (List.mem_singleton.mpr rfl)
  have hIlt : I < s₂.heap.objs.size := hfp I hIf
  have old : ∀ b o, s₂.heap.get? b = some o → h₁.get? b = some o := fun b o e => hsb₁.extBut b o (below b (Heap.lt_size e)).1 (Heap.get?_push_of_some _ (hH2 ▸ Heap.get?_push_of_some _ e))
  have hacc : h₁.get? s₂.heap.objs.size = some (lst []) := hsb₁.extBut _ _ hDC (Heap.get?_push_of_some _ (hH2 ▸ Heap.get?_push_size _ rfl))
  have hst₁ : St 0 h₁ := W.frame _ _ _ hst fun b _ o e => old b o e
  have fresh : ∀ a, s₂.heap.objs.size ≤ a → s₂.heap.get? a = none := fun a ha => by
    cases e : s₂.heap.get? a with
    | none => rfl
    | some o' => exact absurd (Heap.lt_size e) (Nat.not_lt.mpr ha)
  have fresh₀ : ∀ a, s₂.heap.objs.size ≤ a → h₀.get? a = none := fun a ha => by
    cases e : h₀.get? a with
    | none => rfl
    | some o' => have := F.keep a o' e; rw [fresh a ha] at this; cases this
  have hD₀ : h₀.get? s₂.heap.objs.size = none := fresh₀ _ (Nat.le_refl _)
  have hC₀ : h₀.get? H2.objs.size = none := fresh₀ _ (by rw [hC]; exact Nat.le_succ _)
  have hLlt : L < s₂.heap.objs.size := F.ns.lt
  have hDL : s₂.heap.objs.size ≠ L := Ne.symm (below L hLlt).2
  have hCL : H2.objs.size ≠ L := Ne.symm (below L hLlt).1
  have hCI : I ≠ H2.objs.size := (below I hIlt).1
  have hDI : I ≠ s₂.heap.objs.size := (below I hIlt).2
  have off₀ : Off3 I H2.objs.size s₂.heap.objs.size news := Off3.of fun p hp => ⟨off p hp, (below _ (Heap.lt_size (N p hp).1)).1, (below _ (Heap.lt_size (N p hp).1)).2⟩
  have loop : ∀ s₃ : Shared, s₃ = { s₂ with heap := h₁, toks := s₂.toks + ([] : List (Str × Value)).length } →
      codeAny (model prog w) A (.compLoop (.ListComp elt [⟨.Name x px, iter, ifs, 0⟩] scope pos) 0 (.ref I) (.ref s₂.heap.objs.size) (compEnvC scope cl H2.objs.size env))
        (RR (.ref s₂.heap.objs.size) H2.objs.size) s₃ := by
    rintro s₃ rfl
    refine codeAny_compLoop_tests
      (CLoop h₀ L m I H2.objs.size s₂.heap.objs.size n St S Inv s₂) ?_ (n + 1)
      (.mk h₁ _ 0 [] _ news (Nat.zero_le _) hst₁ (F.keeps old) hns₁ (fun p hp => ?_) off₀ hS h0)
    · rintro _ _ ⟨h', tk, i, ys, m', news', hi, hst', F', hn', N', off', hS', R'⟩
      by_cases hlt : i < n
      · refine W.item i _ _ _ hlt hst' fun v h₂ tk₂ hPv hst₂ hk₂ => ?_
        refine wpAny_assign_Name (wpAny_storeName_local (lookup_relabel_local hx) (hn'.at' fun o e => hk₂ _ o (by simpa using Ne.symm hCI) e) (fun h₃ hn₃ hs₃ => ?_) (by simp [compEnvC, relabel, hkind]))
        have hst₃ : St (i + 1) h₃ := W.frame _ _ _ hst₂ fun b hb o e => hs₃.extBut b o (fun q => hCf (by have q' : b = H2.objs.size := q; rw [← q']; exact hb)) e
        obtain ⟨oI, heI⟩ := hIo _ _ hst₃
        obtain ⟨oC, heC, hoC⟩ := ns_obj hn₃
        have F₃ : Fr h₀ L h₃ m := (fr_but F' hk₂ hIL hI₀).change hs₃ hCL hC₀
        have off3 := off'.mem
        have N₂ : News h₀ L h₂ ((s₂.heap.objs.size, lst ys) :: news') := news_but N' hk₂ fun p hp => by
          rcases List.mem_cons.mp hp with rfl | hp
          · exact Ne.symm hDI
          · exact (off3 p hp).1
        have N₃ : News h₀ L h₃ ((I, oI) :: (H2.objs.size, oC) :: (s₂.heap.objs.size, lst ys) :: news') := fun p hp => by
          rcases List.mem_cons.mp hp with rfl | hp
          · exact ⟨heI, Ne.symm hIL, hI₀⟩
          · rcases List.mem_cons.mp hp with rfl | hp
            · exact ⟨heC, hCL, hC₀⟩
            · have z := N₂ p hp
              refine ⟨hs₃.extBut _ _ ?_ z.1, z.2⟩
              rcases List.mem_cons.mp hp with rfl | hp
              · exact hDC
              · exact (off3 p hp).2.1
        have T := turn i ys news' v I oI H2.objs.size oC s₂.heap.objs.size _ h₃ (tk₂ + 1) (notedBy (model prog w) A (compEnvC scope cl H2.objs.size env) fun e s' => RR (.ref s₂.heap.objs.size) H2.objs.size (.error e) s') hlt R' hS' hPv hoC (by simp) F₃ N₃ off' ⟨hCI, hDI, Ne.symm hDC⟩
        have back : ∀ (ys' : List Value) (y : Value) (s₄ : Shared), CompEnd h₀ L m { s₂ with heap := h₃, toks := tk₂ + 1 } I oI H2.objs.size oC s₂.heap.objs.size (lst ys) S (fun _ nw' => Inv (i + 1) ys' nw') y s₄ →
            ∃ h₄ tk₄ news₄, s₄ = { s₂ with heap := h₄, toks := tk₄ } ∧ St (i + 1) h₄ ∧ Fr h₀ L h₄ m ∧ (∃ m₄, h₄.Ns H2.objs.size m₄) ∧ News h₀ L h₄ ((s₂.heap.objs.size, lst ys) :: news₄) ∧ Off3 I H2.objs.size s₂.heap.objs.size news₄ ∧ S news₄ ∧ Inv (i + 1) ys' news₄ := by
          intro ys' y s₄ h₄
          obtain ⟨h₄, tk₄, news₄, rfl, F₄, N₄, off₄, hS₄, R₄⟩ := h₄
          have zI := (N₄ (I, oI) List.mem_cons_self).1
          have zC := (N₄ (H2.objs.size, oC) (List.mem_cons_of_mem _ List.mem_cons_self)).1
          have N₄' : News h₀ L h₄ ((s₂.heap.objs.size, lst ys) :: news₄) := fun p hp => N₄ p (List.mem_cons_of_mem _ (List.mem_cons_of_mem _ hp))
          exact ⟨h₄, tk₄, news₄, rfl, hSt _ _ _ _ _ hst₃ heI zI F₄.keep (fun p hp => N₄' p (List.mem_cons_of_mem _ hp)) hS₄, F₄, ⟨_, hoC.ns zC⟩, N₄', off₄, hS₄, R₄⟩
        refine wpAny_mono T (fun ok s₃ h₃' => ?_) fun _ _ e => e
        cases ok with
        | false =>
          refine ite_fi ?_
          obtain ⟨h₄, tk₄, news₄, rfl, st₄, F₄, ⟨m₄, n₄⟩, N₄, off₄, hS₄, R₄⟩ := back ys .none s₃ (ite_f h₃')
          exact ⟨n + 1 - (i + 1), by omega, .mk h₄ tk₄ (i + 1) ys m₄ news₄ hlt st₄ F₄ n₄ N₄ off₄ hS₄ R₄⟩
        | true =>
          refine ite_ti ?_
          refine wpAny_mono (ite_t h₃') (fun y s₄ h₄ => ?_) fun _ _ e => e
          obtain ⟨h₄, tk₄, news₄, rfl, st₄, F₄, ⟨m₄, n₄⟩, N₄, off₄, hS₄, R₄⟩ := back (ys ++ [y]) y s₄ h₄
          have zD := (N₄ (s₂.heap.objs.size, lst ys) List.mem_cons_self).1
          have hyl := hlen _ _ _ R'
          refine append_at (hsz := by show ys.toArray.size ≤ sizeLine; rw [List.size_toArray]; exact Nat.le_trans hyl (Nat.le_trans hi hsz)) zD fun h₅ hs₅ hD₅ => ?_
          have off4 := off₄.mem
          refine ⟨n + 1 - (i + 1), by omega, .mk h₅ tk₄ (i + 1) (ys ++ [y]) _ news₄ hlt (W.frame _ _ _ st₄ fun b hb o e => hs₅.extBut b o (fun q => hDf (q ▸ hb)) e) (F₄.change hs₅ hDL hD₀)
            (n₄.sameBut hs₅ (Ne.symm hDC)) (fun p hp => ?_) off₄ hS₄ R₄⟩
          rcases List.mem_cons.mp hp with rfl | hp
          · exact ⟨hD₅.trans (congrArg some (lst_snoc ys y)), hDL, hD₀⟩
          · exact ⟨hs₅.extBut _ _ (off4 p hp).2.2 (N₄ p (List.mem_cons_of_mem _ hp)).1, (N₄ p (List.mem_cons_of_mem _ hp)).2⟩
      · obtain rfl : i = n := Nat.le_antisymm hi (Nat.not_lt.mp hlt)
        refine W.done _ _ _ hst' fun h₂ tk₂ hk₂ => ?_
        have off3 := off'.mem
        exact hRR _ _ h₂ tk₂ _ ys news' (fr_but F' hk₂ hIL hI₀) (news_but N' hk₂ fun p hp => by
          rcases List.mem_cons.mp hp with rfl | hp
          · exact Ne.symm hDI
          · exact (off3 p hp).1) off'.one (hn'.at' fun o e => hk₂ _ o (by simpa using Ne.symm hCI) e) hC₀ hD₀ hCL hDL (Ne.symm hDC) (fun p hp => (off3 p hp).2.1) hS' R'
    · rcases List.mem_cons.mp hp with rfl | hp
      · exact ⟨hacc, hDL, hD₀⟩
      · exact ⟨old _ _ (N p hp).1, (N p hp).2⟩
  exact codeAny_compStart_list (loop _ rfl) (W.self 0 _ _ _ hst₁ (loop _ rfl))
end
end Mine
end
section
open PySem.Spec
namespace Mine
open PyProof.Rows.LCg (NsObj ns_obj lst lst_snoc Off3 Off1 CompEnd fr_but news_but FinE SrcAt range_walks range_st list_st)
inductive CSrc (prog : Program) (w : World) (A : Around) (h₀ : Heap) (L : Addr) (m : Str → Option Value) (env : Env) (elt : Expr) (x : Str) (ifs : List Expr) (scope : Scope) (cl : List (Str × Addr)) (Q : Value → Shared → Prop) (xv : Value) (s₁ : Shared) : Prop where
  | mk (n : Nat) (S : List (Addr × Obj) → Prop) (P : Nat → Value → Prop) (Inv : Nat → List Value → List (Addr × Obj) → Prop) (news : List (Addr × Obj)) (h1 : A.handled = none) (h2 : Fr h₀ L s₁.heap m) (h3 : News h₀ L s₁.heap news) (h4 : n ≤ sizeLine) (h5 : S news) (h6 : (∀ i ys nw, Inv i ys nw → ys.length ≤ i)) (h7 : Inv 0 [] news) (h8 : (∀ g, Turn prog w A h₀ L m env elt x ifs scope cl { s₁ with heap := g } S P Inv n)) (h9 : (∀ g ys nw, S nw → Inv n ys nw → FinE h₀ L m { s₁ with heap := g } Q ys nw)) (h10 : ((∃ r a b t u v, xv = .ref r ∧ IsRange s₁.heap r a b 1 t u v ∧ Builtin.Range.small a b 1 = true ∧ Builtin.Range.rangeSize a b 1 = ((n : Nat) : Int) ∧ (∀ nw, S nw) ∧ P = (fun i v => ∃ t, v = .int (a + (i : Int)) t)) ∨ (∃ y t, xv = .str y t ∧ n = y.cps.size ∧ (∀ nw, S nw) ∧ P = SignAt y) ∨ (∃ ax its, xv = .ref ax ∧ n = its.size ∧ (∀ nw, S nw → SrcAt h₀ ax its nw) ∧ P = (fun i v => its[i]? = some v))))
section
variable {prog : Program} {w : World} {A : Around} {E : Value → Shared → Prop} {s : Shared} {h₀ : Heap} {L : Addr} {m : Str → Option Value} {env : Env}
theorem comp_inv {elt iter : Expr} {x : Str} {px : Pos} {ifs : List Expr} {scope : Scope} {cl : List (Str × Addr)} {pos : Pos} {Q : Value → Shared → Prop} (_F₀ : Fr h₀ L s.heap m)
    (hclos : closureFor scope env = pure cl) (hcell : ∀ y ∈ scope.names, y.2 ≠ .cell) (hkind : scope.kind = .function)
    (hnames : ∀ y ∈ scope.names, y.2 = .local → scope.names.lookup y.1 = some .local) (hx : scope.names.lookup x = some .local)
    (h : wpAny (model prog w) A (eval iter env) (CSrc prog w A h₀ L m env elt x ifs scope cl Q) E s)
    (hs : ∀ x, foldedSetIterable iter env x = pure x := by intro _; rfl) :
    wpAny (model prog w) A (eval (.ListComp elt [⟨.Name x px, iter, ifs, 0⟩] scope pos) env) Q E s := by
  rw [eval_ListComp]
  refine wpAny_comprehension_free (use := none) rfl hs hclos hkind hnames (wpAny_mono h (fun xv s₁ h₁ => ?_) fun _ _ e => e)
  refine hideG ?_
  intro GG
  first | (refine and15 h₁ ?_; clear h₁; intro n S P Inv news hh F N hsz hS hlen h0 turn fin src) | obtain ⟨n, S, P, Inv, news, hh, F, N, hsz, hS, hlen, h0, turn, fin, src⟩ := h₁
  k_unfold
  have last : ∀ g : Heap, ∀ (D C : Addr) (h : Heap) (tk : Nat) (m' : Str → Option Value) (ys : List Value) (news' : List (Addr × Obj)), Fr h₀ L h m → News h₀ L h ((D, lst ys) :: news') → Off1 D news' → h.Ns C m' → h₀.get? C = none → h₀.get? D = none → C ≠ L → D ≠ L → C ≠ D → (∀ p ∈ news', p.1 ≠ C) → S news' → Inv n ys news' →
      compPost (model prog w) A E none Q (.ref D) C (.ok .next) { s₁ with heap := h, toks := tk } := by
    intro g D C h tk m' ys news' F' N' o1 hn hC₀ hD₀ hCL hDL hCD offC hS' hi
    refine ⟨m', hn, fun h'' hs'' => fin g ys news' hS' hi D h'' tk (F'.change hs'' hCL hC₀) (fun p hp => ?_) o1⟩
    refine ⟨hs''.extBut _ _ ?_ (N' p hp).1, (N' p hp).2⟩
    rcases List.mem_cons.mp hp with rfl | hp
    · exact Ne.symm hCD
    · exact offC p hp
  rcases src with ⟨r, a, b, t, u, v, rfl, hr, hsm, hn, hS2, rfl⟩ | ⟨y, t, rfl, rfl, hS2, rfl⟩ | ⟨ax, its, rfl, rfl, hS2, rfl⟩
  · refine wpAny_pyIter_range hr hsm ?_
    refine block_inv (S := S) (range_walks hh a n) hsz (fun i h st => ⟨_, st⟩) (fun i h h' o nw st e e' k N _ => range_st i h h' o nw st e e' k N trivial) hcell hkind hx (by show IsRangeIter _ _ _ _ _; rw [hn]; simpa using Heap.get?_push_size _ rfl) (fun b hb => ?_)
      (F.keeps fun _ _ e => Heap.get?_push_of_some _ e) (N.grown fun _ _ e => Heap.get?_push_of_some _ e) (Nat.ne_of_lt F.ns.lt) (next_is_new F) (fun p hp => Nat.ne_of_lt (Heap.lt_size (N p hp).1)) hS hlen h0 (turn _) (last s₁.heap)
    rw [List.mem_singleton.mp hb]
    show s₁.heap.objs.size < (s₁.heap.push _).objs.size
    rw [Heap.size_push]; exact Nat.lt_succ_self _
  · have key : ∀ T, Walks prog w A s₁.heap.objs.size [s₁.heap.objs.size] [s₁.heap.objs.size] y.cps.size (SignAt y) (fun i h => h.IsStrIter s₁.heap.objs.size T y t i) → (s₁.heap.push { cls := .type T, data := .fields #[.str y t, .int 0 0] }).IsStrIter s₁.heap.objs.size T y t 0 →
        wpAny (model prog w) A (newList []) (fun acc s₃ => wpAny (model prog w) A (newFunctionEnv scope env.globals cl [] env.qual none .none (some env)) (fun cenv s₄ =>
          codeAny (model prog w) A (.compStart (.ListComp elt [⟨.Name x px, iter, ifs, 0⟩] scope pos) 0 (.ref s₁.heap.objs.size) acc { cenv with scope := relabel scope env }) (compPost (model prog w) A E none Q acc cenv.locals) s₄) E s₃) E { s₁ with heap := s₁.heap.push { cls := .type T, data := .fields #[.str y t, .int 0 0] } } := fun T W st => by
      refine block_inv (RR := fun acc C => compPost (model prog w) A E none Q acc C) (S := S) W hsz (fun i h st => by obtain ⟨o, e, _⟩ := st; exact ⟨o, e⟩) (fun i h h' o nw st e e' _ _ _ => by
          first | (refine and3 st ?_; clear st; intro o' q r) | obtain ⟨o', q, r⟩ := st
          rw [e] at q; cases q
          exact ⟨o, e', r⟩) hcell hkind hx st (fun b hb => ?_)
        (F.keeps fun _ _ e => Heap.get?_push_of_some _ e) (N.grown fun _ _ e => Heap.get?_push_of_some _ e) (Nat.ne_of_lt F.ns.lt) (next_is_new F) (fun p hp => Nat.ne_of_lt (Heap.lt_size (N p hp).1)) hS hlen h0 (turn _) (last s₁.heap)
      rw [List.mem_singleton.mp hb]
      show s₁.heap.objs.size < (s₁.heap.push _).objs.size
      rw [Heap.size_push]; exact Nat.lt_succ_self _
    cases ha : y.cps.all (· < 128)
    · exact wpAny_pyIter_wide ha (key "str_iterator" (Walks.strWide hh _ y t) ⟨_, Heap.get?_push_size _ rfl, rfl, rfl⟩)
    · exact wpAny_pyIter_ascii ha (key "str_ascii_iterator" (Walks.strAscii hh _ y t) ⟨_, Heap.get?_push_size _ rfl, rfl, rfl⟩)
  · have hl := (hS2 _ hS).list F.keep N
    have hlt : ax < s₁.heap.objs.size := by obtain ⟨_, e, _⟩ := hl; exact Heap.lt_size e
    refine wpAny_pyIter_list hl ?_
    have up : ∀ b o, s₁.heap.get? b = some o → (s₁.heap.push { cls := .type "list_iterator", data := .fields #[.ref ax, .int 0 0] }).get? b = some o := fun b o e => Heap.get?_push_of_some _ e
    refine block_inv (S := S) (Walks.list hh s₁.heap.objs.size ax (Nat.ne_of_lt hlt) its) hsz (fun i h st => by obtain ⟨o, e, _⟩ := st.1; exact ⟨o, e⟩) (fun i h h' o nw st e e' k N z => list_st i h h' o nw st e e' k N (hS2 _ z)) hcell hkind hx ⟨⟨_, Heap.get?_push_size _ rfl, rfl, rfl⟩, hl.push _⟩ (fun b hb => ?_)
      (F.keeps up) (N.grown up) (Nat.ne_of_lt F.ns.lt) (next_is_new F) (fun p hp => Nat.ne_of_lt (Heap.lt_size (N p hp).1)) hS hlen h0 (turn _) (last s₁.heap)
    show b < (s₁.heap.push _).objs.size
    rw [Heap.size_push]
    rcases List.mem_cons.mp hb with rfl | hb
    · exact Nat.lt_succ_self _
    · rw [List.mem_singleton.mp hb]; exact Nat.lt_succ_of_lt hlt
end
section
variable {prog : Program} {w : World} {A : Around} {s₁ : Shared} {h₀ : Heap} {L : Addr} {m : Str → Option Value} {env : Env} {elt : Expr} {x : Str} {ifs : List Expr} {scope : Scope} {cl : List (Str × Addr)} {Q : Value → Shared → Prop} {news : List (Addr × Obj)}
theorem CSrc.range {r : Addr} {a b : Int} {t u v : Tok} {n : Nat} (Inv : Nat → List Value → List (Addr × Obj) → Prop) (hh : A.handled = none) (F : Fr h₀ L s₁.heap m) (N : News h₀ L s₁.heap news) (hr : IsRange s₁.heap r a b 1 t u v) (hsm : Builtin.Range.small a b 1 = true) (hn : Builtin.Range.rangeSize a b 1 = ((n : Nat) : Int)) (hsz : n ≤ sizeLine)
    (hlen : ∀ i ys nw, Inv i ys nw → ys.length ≤ i) (h0 : Inv 0 [] news)
    (turn : ∀ g, Turn prog w A h₀ L m env elt x ifs scope cl { s₁ with heap := g } (fun _ => True) (fun i v => ∃ t, v = .int (a + (i : Int)) t) Inv n) (fin : ∀ g ys nw, Inv n ys nw → FinE h₀ L m { s₁ with heap := g } Q ys nw) :
    CSrc prog w A h₀ L m env elt x ifs scope cl Q (.ref r) s₁ :=
  ⟨n, fun _ => True, _, Inv, news, hh, F, N, hsz, trivial, hlen, h0, turn, fun g ys nw _ => fin g ys nw, .inl ⟨r, a, b, t, u, v, rfl, hr, hsm, hn, fun _ => trivial, rfl⟩⟩
theorem CSrc.text {y : Str} {t : Tok} (Inv : Nat → List Value → List (Addr × Obj) → Prop) (hh : A.handled = none) (F : Fr h₀ L s₁.heap m) (N : News h₀ L s₁.heap news) (hsz : y.cps.size ≤ sizeLine)
    (hlen : ∀ i ys nw, Inv i ys nw → ys.length ≤ i) (h0 : Inv 0 [] news)
    (turn : ∀ g, Turn prog w A h₀ L m env elt x ifs scope cl { s₁ with heap := g } (fun _ => True) (SignAt y) Inv y.cps.size) (fin : ∀ g ys nw, Inv y.cps.size ys nw → FinE h₀ L m { s₁ with heap := g } Q ys nw) :
    CSrc prog w A h₀ L m env elt x ifs scope cl Q (.str y t) s₁ :=
  ⟨_, fun _ => True, _, Inv, news, hh, F, N, hsz, trivial, hlen, h0, turn, fun g ys nw _ => fin g ys nw, .inr (.inl ⟨y, t, rfl, rfl, fun _ => trivial, rfl⟩)⟩
theorem CSrc.items {ax : Addr} {its : Array Value} (Inv : Nat → List Value → List (Addr × Obj) → Prop) (hh : A.handled = none) (F : Fr h₀ L s₁.heap m) (N : News h₀ L s₁.heap news) (hsz : its.size ≤ sizeLine) (hS : SrcAt h₀ ax its news)
    (hlen : ∀ i ys nw, Inv i ys nw → ys.length ≤ i) (h0 : Inv 0 [] news)
    (turn : ∀ g, Turn prog w A h₀ L m env elt x ifs scope cl { s₁ with heap := g } (SrcAt h₀ ax its) (fun i v => its[i]? = some v) Inv its.size) (fin : ∀ g ys nw, SrcAt h₀ ax its nw → Inv its.size ys nw → FinE h₀ L m { s₁ with heap := g } Q ys nw) :
    CSrc prog w A h₀ L m env elt x ifs scope cl Q (.ref ax) s₁ :=
  ⟨_, SrcAt h₀ ax its, _, Inv, news, hh, F, N, hsz, hS, hlen, h0, turn, fin, .inr (.inr ⟨ax, its, rfl, rfl, fun _ z => z, rfl⟩)⟩
end
end Mine
end
section
open PySem.Spec
namespace Mine
noncomputable abbrev St (l : List Nat) : Str := ⟨l.toArray⟩
noncomputable abbrev ones (l : List Nat) : List Str := l.map fun c => (⟨#[c]⟩ : Str)
theorem ones_signs (l : List Nat) : ones l = signs (St l) := rfl
theorem St_len (l : List Nat) : (St l).length = l.length := by simp [St, Str.length]
theorem ones_sum (l : List Nat) : ((ones l).map (·.length)).sum = l.length := by
  induction l with
  | nil => rfl
  | cons a r ih =>
    have h1 : (⟨#[a]⟩ : Str).length = 1 := rfl
    simp only [ones, List.map_cons, List.sum_cons, List.length_cons, h1] at ih ⊢
    lia
theorem strs_snoc : ∀ {vs : List Value} {ys : List Str} {y : Str} {t : Tok}, StrsAre vs ys → StrsAre (vs ++ [.str y t]) (ys ++ [y])
  | _, _, y, t, .nil => .cons y t .nil
  | _, _, y, t, .cons a b h => .cons a b (strs_snoc h)
theorem strs_ones_snoc {vs : List Value} {l : List Nat} {c : Nat} {t : Tok} (h : StrsAre vs (ones l)) : StrsAre (vs ++ [.str ⟨#[c]⟩ t]) (ones (l ++ [c])) := by
  have := strs_snoc (y := ⟨#[c]⟩) (t := t) h
  simpa [ones] using this
theorem strs_len {vs : List Value} {ys : List Str} (h : StrsAre vs ys) : vs.length = ys.length := by
  induction h with
  | nil => rfl
  | cons _ _ _ ih => simp [ih]
theorem isList_of {h₀ h : Heap} {L D : Addr} {ys : List Value} {n : Nat} {news : List (Addr × Obj)} (N : News h₀ L h news) (hm : (D, ({ cls := .type "list", data := .seq ys.toArray n } : Obj)) ∈ news) : h.IsList D ys.toArray := ⟨_, (N _ hm).1, rfl, n, rfl⟩
section
variable {prog : Program} {w : World} {A : Around} {E : Value → Shared → Prop} {s : Shared}
theorem join_ones_l {D : Addr} {ys : List Value} {l : List Nat} {t : Tok} {Q : Value → Shared → Prop} (hl : s.heap.IsList D ys.toArray) (hi : StrsAre ys (ones l)) (hlen : l.length ≤ 10000) (h : ∀ t k, Q (.str (St l) t) { s with toks := k }) :
    wpAny (model prog w) A (call (.builtin "str.join") [.str (Str.ofString "") t, .ref D]) Q E s := by
  refine join_listW hl (ys := ones l) (by simpa using hi) (by decide) (by rw [ones_sum]; simp [ones]; omega) fun t' k => ?_
  have e : Txt.join (Str.ofString "") (ones l) = St l := (StrLaws.glued_eq_join _ _).trans (join_nil_signs (St l))
  rw [e]
  exact h t' k
end
end Mine
end
section
open PySem.Spec PySem.Builtin PySem.Builtin.Str
namespace Mine
noncomputable abbrev cd (x : Str) : List Nat := x.cps.toList
theorem cd_len (x : Str) : (cd x).length = x.length := by simp [cd, Str.length]
theorem St_cd (x : Str) : St (cd x) = x := by
  obtain ⟨⟨l⟩⟩ := x
  rfl
theorem range_pick (l : List Nat) (s : Nat) : ∀ k, (List.range k).filterMap (fun i => l[s + i]?) = (l.drop s).take k
  | 0 => rfl
  | k + 1 => by
    rw [List.range_succ, List.filterMap_append, range_pick l s k, List.take_add_one]
    congr 1
    simp only [List.filterMap_cons, List.filterMap_nil, List.getElem?_drop]
    cases l[s + k]? <;> rfl
theorem slice_idx (x : Str) (l u : Option Int) (s k : Nat) (h : strSliceIndices l u 1 x.length = (List.range k).map (fun i => s + i)) (hk : s + k ≤ x.length) : Txt.slice x l u = St (((cd x).drop s).take k) := by
  have e : ((strSliceIndices l u 1 x.length).filterMap (x.cps[·]?)) = ((cd x).drop s).take k := by
    rw [h, List.filterMap_map, ← range_pick]
    congr 1
    funext i
    simp [cd]
  unfold Txt.slice
  split
  · rename_i hc
    have hl : k = x.length := by
      rw [h] at hc
      simpa using hc
    have hs : s = 0 := by lia
    subst hs
    have : ((cd x).drop 0).take k = cd x := by
      rw [List.drop_zero, List.take_of_length_le]
      rw [cd_len]; omega
    rw [this, St_cd]
  · rw [e]
theorem sliceRange_one (a b : Int) (ha : 0 ≤ a) : sliceRange a b 1 = (List.range (b - a).toNat).map (fun i => a.toNat + i) := by
  unfold sliceRange
  have h1 : (if (1 : Int) > 0 then (if a < b then (b - a + 1 - 1) / 1 else 0) else (if a > b then (a - b - 1 - 1) / (-1) else 0)).toNat = (b - a).toNat := by
    rw [if_pos (by decide)]
    split <;> lia
  dsimp only
  rw [h1]
  apply List.map_congr_left
  intro i _
  lia
theorem mmn (p n : Nat) : max (0 : Int) (min (p : Int) (n : Int)) = ((min p n : Nat) : Int) := by
  cases Nat.le_total p n with
  | inl h => rw [Nat.min_eq_left h, Int.min_eq_left (Int.ofNat_le.mpr h)]; exact Int.max_eq_right (Int.natCast_nonneg p)
  | inr h => rw [Nat.min_eq_right h, Int.min_eq_right (Int.ofNat_le.mpr h)]; exact Int.max_eq_right (Int.natCast_nonneg n)
theorem drop_min (l : List Nat) (p q : Nat) : (l.drop (min p l.length)).take (min q l.length - min p l.length) = (l.take q).drop p := by
  rw [List.drop_take]
  cases Nat.le_total p l.length with
  | inr h => rw [Nat.min_eq_right h, List.drop_eq_nil_of_le (Nat.le_refl _), List.drop_eq_nil_of_le h, List.take_nil, List.take_nil]
  | inl h =>
    rw [Nat.min_eq_left h]
    cases Nat.le_total q l.length with
    | inl g => rw [Nat.min_eq_left g]
    | inr g => rw [Nat.min_eq_right g, List.take_of_length_le (by rw [List.length_drop]; exact Nat.le_refl _), List.take_of_length_le (by rw [List.length_drop]; exact Nat.sub_le_sub_right g p)]
theorem slice_ab (x : Str) (a b : Int) (ha : 0 ≤ a) (hb : 0 ≤ b) : Txt.slice x (some a) (some b) = St (((cd x).take b.toNat).drop a.toNat) := by
  obtain ⟨p, rfl⟩ := Int.eq_ofNat_of_zero_le ha
  obtain ⟨q, rfl⟩ := Int.eq_ofNat_of_zero_le hb
  have h : strSliceIndices (some (p : Int)) (some (q : Int)) 1 x.length = (List.range (min q x.length - min p x.length)).map (fun i => min p x.length + i) := by
    simp only [strSliceIndices, if_neg (Int.not_lt.mpr ha), if_neg (Int.not_lt.mpr hb), if_pos (show (1 : Int) > 0 by decide), mmn]
    rw [sliceRange_one _ _ (Int.natCast_nonneg _), Int.toNat_sub]
    rfl
  rw [slice_idx x _ _ _ _ h (by
    have := Nat.min_le_right q x.length
    exact Nat.le_trans (Nat.le_of_eq (Nat.add_comm _ _)) (by omega))]
  congr 1
  exact (cd_len x ▸ drop_min (cd x) p q)
theorem toNat_subL {L : Nat} {n : Int} (h : 0 ≤ n) : ((L : Int) - n).toNat = L - n.toNat := by
  obtain ⟨p, rfl⟩ := Int.eq_ofNat_of_zero_le h
  exact Int.toNat_sub L p
theorem right_idx {L : Nat} {n : Int} (h : 0 ≤ n) : (if 0 > (L : Int) - n then 0 else (L : Int) - n).toNat = L - n.toNat := by
  split
  · rename_i g
    rw [← toNat_subL h, Int.toNat_of_nonpos (Int.le_of_lt g)]; rfl
  · exact toNat_subL h
theorem slice_b (x : Str) (b : Int) (hb : 0 ≤ b) : Txt.slice x none (some b) = St ((cd x).take b.toNat) := by
  have h : strSliceIndices none (some b) 1 x.length = strSliceIndices (some 0) (some b) 1 x.length := by
    simp only [strSliceIndices, if_pos (show (1 : Int) > 0 by decide), if_neg (show ¬ (0 : Int) < 0 by decide)]
    rw [show Max.max (0 : Int) (Min.min 0 (x.length : Int)) = 0 by omega]
  have e : Txt.slice x none (some b) = Txt.slice x (some 0) (some b) := by unfold Txt.slice; rw [h]
  rw [e, slice_ab x 0 b (by decide) hb]
  rfl
theorem slice_a (x : Str) (a : Int) (ha : 0 ≤ a) : Txt.slice x (some a) none = St ((cd x).drop a.toNat) := by
  have h : strSliceIndices (some a) none 1 x.length = strSliceIndices (some a) (some (x.length : Int)) 1 x.length := by
    simp only [strSliceIndices, if_pos (show (1 : Int) > 0 by decide), if_neg (show ¬ (x.length : Int) < 0 by omega)]
    congr 1; lia
  have e : Txt.slice x (some a) none = Txt.slice x (some a) (some (x.length : Int)) := by unfold Txt.slice; rw [h]
  rw [e, slice_ab x a _ ha (by omega)]
  congr 2
  rw [List.take_of_length_le (by rw [cd_len]; omega)]
end Mine
end
section
open PySem.Spec PySem.Builtin PySem.Builtin.Str
namespace Mine
theorem item_at (x : Str) (i : Int) (h0 : 0 ≤ i) (h1 : i < (x.length : Int)) : Txt.item x i = St [(cd x).getD i.toNat 0] := by
  have h2 : i.toNat < x.cps.size := by have : x.length = x.cps.size := rfl; omega
  have e : Txt.charAt x i = some ((cd x).getD i.toNat 0) := by
    unfold Txt.charAt
    have e1 : seqIndex? i x.length = some i.toNat := by
      unfold seqIndex?
      simp only [show ¬ i < 0 by omega, if_false]
      rw [if_pos (by simp [h0, h1])]
    rw [e1]
    simp only [Option.bind_some, cd]
    rw [Array.getElem?_eq_getElem h2]
    simp [List.getD, List.getElem?_eq_getElem, h2]
  unfold Txt.item
  rw [e]
  rfl
theorem foldl_single (c : Nat) : ∀ (n : Nat) (acc : Array Nat), (List.replicate n (#[c] : Array Nat)).foldl (· ++ ·) acc = acc ++ (List.replicate n c).toArray
  | 0, acc => by simp
  | n + 1, acc => by
    rw [List.replicate_succ, List.foldl_cons, foldl_single c n, List.replicate_succ]
    apply Array.toList_inj.mp
    simp
theorem mul_ch (c : Nat) (n : Int) : Txt.mul (St [c]) n = St (List.replicate n.toNat c) := by
  unfold Txt.mul
  split
  · rename_i h
    rw [show n.toNat = 0 by lia]
    rfl
  · split
    · rename_i h1 h2
      have h3 : n = 1 := by simpa [St, Str.length] using h2
      subst h3
      rfl
    · show (⟨_⟩ : Str) = ⟨_⟩
      congr 1
      rw [show (St [c]).cps = #[c] from rfl, foldl_single]
      simp
theorem len_ne (x : Str) (h : x.length ≠ 0) : (x == Str.ofString "") = false := by
  cases hc : (x == Str.ofString "") with
  | false => rfl
  | true =>
    exfalso
    have : x = Str.ofString "" := by simpa using hc
    exact h (by rw [this]; rfl)
end Mine
end
section
namespace Mine
noncomputable def Stop (p : Prop) : Prop := p
theorem Stop.go {p : Prop} (h : Stop p) : p := h
theorem Stop.of {p : Prop} (h : p) : Stop p := h
end Mine
namespace Mine
theorem ret_ite {w : World} {news : List (Addr × Obj)} {P : Prop} [Decidable P] {R : Tok → Value} {c : Str} {base : Heap} {envs : List Env} {h₀ : Heap} {L : Addr} {m : Str → Option Value} {s : Shared} {Q E : Value → Shared → Prop}
    (h1 : P → RetV news R base envs h₀ L m s Q E) (h2 : ¬ P → RetX w news c base envs h₀ L m s Q E) : RetO w news (if P then .val R else .err c) base envs h₀ L m s Q E := by
  by_cases p : P
  · rw [if_pos p]; exact h1 p
  · rw [if_neg p]; exact h2 p
end Mine
namespace Mine
theorem gd0 (a : Int) (l : List Int) : (a :: l).getD (Int.toNat 0) 0 = a := rfl
theorem gd1 (a b : Int) (l : List Int) : (a :: b :: l).getD (Int.toNat 1) 0 = b := rfl
end Mine
end
section
namespace Mine
theorem wd_Y1_1 : True := by (k_with "execs cons" => (k_here; (with_reducible show wpAny _ _ (execs (_ :: _) _) _ _ _); (try k_made); (refine execsYg ?_); intro _ _)); (k_with "execs cons" => (k_here; (with_reducible show wpAny _ _ (execs (_ :: _) _) _ _ _); (fail_if_success (with_reducible refine gGq GI.z ?_)); (try k_made); k_dflt (refine' withG ?_ ?_ ?_ ?_; rotate_right 4; (k_asm); (k_asm); (rfl); k_whole); intro _ _ _ gGq)); (k_with "spliced" => (k_here; (refine args_consG ?_); intro _)); (k_with "spliced" => (k_here; (with_reducible show wpAny _ _ (spliced (backTo _ (starEach (PySem.Expr.Name _ _ :: _) _))) _ _ _); (with_reducible refine' gGq GI.a ?_ ?_ ?_ ?_; rotate_right 4); k_dflt ((rotate_left 1; (kernel_rfl); rotate_right 1); (k_asm); (focus ((((repeat (first | with_reducible exact nm_hit | ((with_reducible refine Eq.trans (nm_miss ?_) ?_; kernel_rfl)))); (try rfl))); done)); k_whole))); (k_with "spliced" => (k_here; (with_reducible show wpAny _ _ (spliced (backTo _ (starEach (PySem.Expr.Constant _ _ _ :: _) _))) _ _ _); (first | with_reducible refine gGq GI.i ?_ | with_reducible refine gGq GI.t ?_))); (k_with "spliced" => (k_here; (with_reducible show wpAny _ _ (spliced (backTo _ (starEach [] _))) (KCons _ _) _ _); k_dflt (first | ((with_reducible refine' gGq GI.n1 ?_ ?_ ?_; rotate_right 3; (k_asm); (k_asm))) | ((with_reducible refine' gGq GI.n2 ?_ ?_ ?_; rotate_right 3; (k_asm); (k_asm))) | ((with_reducible refine' gGq GI.n3 ?_ ?_ ?_; rotate_right 3; (k_asm); (k_asm))) | ((with_reducible refine' gGq GI.n4 ?_ ?_ ?_; rotate_right 3; (k_asm); (k_asm))) | with_reducible refine gGq GI.b1 ?_ | with_reducible refine gGq GI.b2 ?_ | with_reducible refine gGq GI.l1 ?_ | with_reducible refine gGq GI.l2 ?_ | with_reducible refine gGq GI.l3 ?_ | with_reducible refine gGq GI.t1 ?_ | with_reducible refine gGq GI.t2 ?_ | with_reducible refine gGq GI.t3 ?_))); (k_with "enter" => (k_dflt (refine' codeG ?_ ?_ ?_ ?_ ?_ ?_ ?_ ?_ ?_ ?_ ?_ ?_ ?_ ?_ ?_ ?_ ?_ ?_; rotate_right 18; (rotate_left 5; (exact rfl); rotate_right 5); (rotate_left 5; (exact rfl); rotate_right 5); (rotate_left 5; (focus ((first | assumption | exact rfl); done)); rotate_right 5); (k_asm); (k_asm); (k_asm); (k_asm); (k_asm); (focus ((k_is); done)); (focus ((k_is); done)); (focus ((k_room); done)); (exact BindsTo.of_eq rfl); (rotate_left 5; (decide); rotate_right 5); (exact locs rfl); (rotate_left 1; (exact rfl); rotate_right 1); (rotate_left 1; (exact rfl); rotate_right 1); (rotate_left 1; (exact rfl); rotate_right 1); k_whole; intro _ _ _ _ _ _ _ _ _ _ _ gBq _ _ gGq; (try k_lift gBq)))); (k_with "call ref" => (k_here; k_extra "enter")); trivial
theorem c_textof {w : World} {mean : ExcName → Option Value} {mg mb : Str → Option Value} {news : List (Addr × Obj)} {x : Str} {t : Tok} : Ct w mean mg mb 72 5 news (True) [.str x t] (RetO w news (.val (fun _ => .str x t))) := by
  refine shed ?_ fun _ n h => ?_
  focus (
  intro dp un gd cn cs a ccd cl outer A₀ base h₀ L m s Q E B F X N T hk hpre hd hu hret
  have hv : True → _ := fun _ => hret
  clear hret
  dsimp only [RetV, RetO] at hv
  k_extra "enter"
  k_steps
  all_goals first
    | exact hv (True.intro) t _ _ (by k_asm) (by k_asm)
    | (exfalso; omega)
    | (exfalso; simp_all; done)
  )
  simpa using pick n 5 h
theorem c_textof_x {w : World} {mean : ExcName → Option Value} {mg mb : Str → Option Value} {news : List (Addr × Obj)} {n : Int} {t : Tok} : Ct w mean mg mb 72 15 news (True) [.int n t] (RetO w news (.err "TM")) := by
  refine shed ?_ fun _ n h => ?_
  focus (
  intro dp un gd cn cs a ccd cl outer A₀ base h₀ L m s Q E B F X N T hk hpre hd hu hret
  have hx : True → _ := fun _ => hret
  clear hret
  dsimp only [RetX, RetO] at hx
  k_extra "enter"
  k_steps
  all_goals first
    | exact hx (True.intro) _ _ _ _ (by assumption) (by assumption) (by assumption)
    | (exfalso; omega)
    | (exfalso; simp_all; done)
  )
  simpa using pick n 5 h
theorem c_size {w : World} {mean : ExcName → Option Value} {mg mb : Str → Option Value} {news : List (Addr × Obj)} {n : Int} {t : Tok} : Ct w mean mg mb 143 15 news (-1000 ≤ n ∧ n ≤ 1000) [.int n t] (RetO w news (if 0 ≤ n ∧ n ≤ 255 then .val (fun _ => .int n t) else .err "FC")) := by
  refine shed ?_ fun _ n h => ?_
  focus (
  intro dp un gd cn cs a ccd cl outer A₀ base h₀ L m s Q E B F X N T hk hpre hd hu hret
  first | (refine and2 hpre ?_; clear hpre; intro hn1 hn2) | obtain ⟨hn1, hn2⟩ := hpre
  refine and2 (ret_if hret) ?_; intro hv hx
  clear hret
  dsimp only [RetV, RetO] at hv
  dsimp only [RetX, RetO] at hx
  k_extra "enter"
  k_steps
  all_goals first
    | exact hv (by omega) t _ _ (by k_asm) (by k_asm)
    | exact hx (by omega) _ _ _ _ (by assumption) (by assumption) (by assumption)
    | (exfalso; omega)
    | (exfalso; simp_all; done)
  )
  simpa using pick n 5 h
theorem c_size_x {w : World} {mean : ExcName → Option Value} {mg mb : Str → Option Value} {news : List (Addr × Obj)} {x : Str} {t : Tok} : Ct w mean mg mb 143 15 news (True) [.str x t] (RetO w news (.err "TM")) := by
  refine shed ?_ fun _ n h => ?_
  focus (
  intro dp un gd cn cs a ccd cl outer A₀ base h₀ L m s Q E B F X N T hk hpre hd hu hret
  have hx : True → _ := fun _ => hret
  clear hret
  dsimp only [RetX, RetO] at hx
  k_extra "enter"
  k_steps
  all_goals first
    | exact hx (True.intro) _ _ _ _ (by assumption) (by assumption) (by assumption)
    | (exfalso; omega)
    | (exfalso; simp_all; done)
  )
  simpa using pick n 5 h
theorem c_place {w : World} {mean : ExcName → Option Value} {mg mb : Str → Option Value} {news : List (Addr × Obj)} {n : Int} {t : Tok} : Ct w mean mg mb 150 25 news (-1000 ≤ n ∧ n ≤ 1000) [.int n t] (RetO w news (if 1 ≤ n ∧ n ≤ 255 then .val (fun _ => .int n t) else .err "FC")) := by
  refine shed ?_ fun _ n h => ?_
  focus (
  intro dp un gd cn cs a ccd cl outer A₀ base h₀ L m s Q E B F X N T hk hpre hd hu hret
  first | (refine and2 hpre ?_; clear hpre; intro hn1 hn2) | obtain ⟨hn1, hn2⟩ := hpre
  refine and2 (ret_if hret) ?_; intro hv hx
  clear hret
  dsimp only [RetV, RetO] at hv
  dsimp only [RetX, RetO] at hx
  k_extra "enter"
  k_steps
  all_goals first
    | exact hv (by omega) t _ _ (by k_asm) (by k_asm)
    | exact hx (by omega) _ _ _ _ (by assumption) (by assumption) (by assumption)
    | (exfalso; omega)
    | (exfalso; simp_all; done)
  )
  simpa using pick n 5 h
theorem c_place_x {w : World} {mean : ExcName → Option Value} {mg mb : Str → Option Value} {news : List (Addr × Obj)} {x : Str} {t : Tok} : Ct w mean mg mb 150 25 news (True) [.str x t] (RetO w news (.err "TM")) := by
  refine shed ?_ fun _ n h => ?_
  focus (
  intro dp un gd cn cs a ccd cl outer A₀ base h₀ L m s Q E B F X N T hk hpre hd hu hret
  have hx : True → _ := fun _ => hret
  clear hret
  dsimp only [RetX, RetO] at hx
  k_extra "enter"
  k_steps
  all_goals first
    | exact hx (True.intro) _ _ _ _ (by assumption) (by assumption) (by assumption)
    | (exfalso; omega)
    | (exfalso; simp_all; done)
  )
  simpa using pick n 5 h
theorem c_sizeR {w : World} {mean : ExcName → Option Value} {mg mb : Str → Option Value} {news : List (Addr × Obj)} {n : Int} {t₀ : Tok} {dp un : Nat} {gd : Option (List Code)} {cn : Str} {cs : Scope} {a : Addr} {ccd : Value} {cl : List (Str × Addr)} {outer : List Env} {A₀ : Around} {base h₀ : Heap} {L : Addr} {m : Str → Option Value} {s : Shared} {Q E : Value → Shared → Prop}
    (B : Below A₀ base outer h₀) (F : Fr h₀ L s.heap m) (X : Frag.In (hd.heap_39 w.params) h₀) (N : News h₀ L s.heap news) (T : Top hd.view_39 (looseW hd.view_39 [Str.ofString "BasicError"]) mean mg mb h₀) (hk : cs.kind = .function)
    (p0 : -1000 ≤ n) (p1 : n ≤ 1000) (d : dp + 15 < recursionLimit) (u : un + 10 * 15 < cLine)
    (gv : 0 ≤ n ∧ n ≤ 255 → ∀ (t : Tok) (h' : Heap) (tk' : Nat), Fr h₀ L h' m → News h₀ L h' news → Q (.int n t₀) { s with heap := h', toks := tk' })
    (gx : ¬ (0 ≤ n ∧ n ≤ 255) → ∀ (e : Addr) (G h' : Heap) (tk' : Nat), Fr h₀ L G m → Flies w base G (envX cn cs L a ccd cl :: outer) e "FC" news h' → G.UpToSlots h' → E (.ref e) { s with heap := h', toks := tk' }) :
    wpAny (model Challenge.pw_pf0012_01 w) (ktrTop dp un gd cn cs L a ccd cl outer) (call (.ref 143) [.int n t₀]) Q E s :=
  c_size _ _ _ _ _ _ _ _ _ _ _ _ _ _ _ _ _ B F X N T hk ⟨p0, p1⟩ d u (ret_ite gv gx)
theorem c_placeR {w : World} {mean : ExcName → Option Value} {mg mb : Str → Option Value} {news : List (Addr × Obj)} {n : Int} {t₀ : Tok} {dp un : Nat} {gd : Option (List Code)} {cn : Str} {cs : Scope} {a : Addr} {ccd : Value} {cl : List (Str × Addr)} {outer : List Env} {A₀ : Around} {base h₀ : Heap} {L : Addr} {m : Str → Option Value} {s : Shared} {Q E : Value → Shared → Prop}
    (B : Below A₀ base outer h₀) (F : Fr h₀ L s.heap m) (X : Frag.In (hd.heap_39 w.params) h₀) (N : News h₀ L s.heap news) (T : Top hd.view_39 (looseW hd.view_39 [Str.ofString "BasicError"]) mean mg mb h₀) (hk : cs.kind = .function)
    (p0 : -1000 ≤ n) (p1 : n ≤ 1000) (d : dp + 25 < recursionLimit) (u : un + 10 * 25 < cLine)
    (gv : 1 ≤ n ∧ n ≤ 255 → ∀ (t : Tok) (h' : Heap) (tk' : Nat), Fr h₀ L h' m → News h₀ L h' news → Q (.int n t₀) { s with heap := h', toks := tk' })
    (gx : ¬ (1 ≤ n ∧ n ≤ 255) → ∀ (e : Addr) (G h' : Heap) (tk' : Nat), Fr h₀ L G m → Flies w base G (envX cn cs L a ccd cl :: outer) e "FC" news h' → G.UpToSlots h' → E (.ref e) { s with heap := h', toks := tk' }) :
    wpAny (model Challenge.pw_pf0012_01 w) (ktrTop dp un gd cn cs L a ccd cl outer) (call (.ref 150) [.int n t₀]) Q E s :=
  c_place _ _ _ _ _ _ _ _ _ _ _ _ _ _ _ _ _ B F X N T hk ⟨p0, p1⟩ d u (ret_ite gv gx)
end Mine
end
section
namespace Mine
theorem wd_T1_1 : True := by (k_with "call ref" => (first | ((k_here; (with_reducible show wpAny _ _ (call (Value.ref 72) [Value.str _ _]) _ _ _); k_dflt (refine' c_textof _ _ _ _ _ _ _ _ _ _ _ _ _ _ _ _ _ ?_ ?_ ?_ ?_ ?_ ?_ trivial ?_ ?_ ?_; rotate_right 9; (rotate_left 3; (k_asm); rotate_right 3); (rotate_left 1; (k_asm); rotate_right 1); (k_asm); (k_asm); (k_asm); (exact rfl); (ktr_room); (ktr_units)); intro tD hD tkD fD nD; (try dsimp only))) | ((k_here; (with_reducible show wpAny _ _ (call (Value.ref 72) [Value.int _ _]) _ _ _); k_dflt (refine' c_textof_x _ _ _ _ _ _ _ _ _ _ _ _ _ _ _ _ _ ?_ ?_ ?_ ?_ ?_ ?_ trivial ?_ ?_ ?_; rotate_right 9; (rotate_left 3; (k_asm); rotate_right 3); (rotate_left 1; (k_asm); rotate_right 1); (k_asm); (k_asm); (k_asm); (exact rfl); (ktr_room); (ktr_units)); intro eX gX hX tkX fX RX UX; (try dsimp only))) | ((k_here; (with_reducible show wpAny _ _ (call (Value.ref 143) [Value.int _ _]) _ _ _); k_dflt (refine' c_sizeR ?_ ?_ ?_ ?_ ?_ ?_ ?_ ?_ ?_ ?_ ?_ ?_; rotate_right 12; (rotate_left 3; (k_asm); rotate_right 3); (rotate_left 5; (omega); rotate_right 5); (rotate_left 5; (omega); rotate_right 5); (rotate_left 1; (k_asm); rotate_right 1); (k_asm); (k_asm); (k_asm); (exact rfl); (ktr_room); (ktr_units)); (focus ((intro hP tD hD tkD fD nD; (try dsimp only)))); (rotate_left 1; (focus ((intro hP eX gX hX tkX fX RX UX; (try dsimp only)))); rotate_right 1))) | ((k_here; (with_reducible show wpAny _ _ (call (Value.ref 143) [Value.str _ _]) _ _ _); k_dflt (refine' c_size_x _ _ _ _ _ _ _ _ _ _ _ _ _ _ _ _ _ ?_ ?_ ?_ ?_ ?_ ?_ trivial ?_ ?_ ?_; rotate_right 9; (rotate_left 3; (k_asm); rotate_right 3); (rotate_left 1; (k_asm); rotate_right 1); (k_asm); (k_asm); (k_asm); (exact rfl); (ktr_room); (ktr_units)); intro eX gX hX tkX fX RX UX; (try dsimp only))) | ((k_here; (with_reducible show wpAny _ _ (call (Value.ref 150) [Value.int _ _]) _ _ _); k_dflt (refine' c_placeR ?_ ?_ ?_ ?_ ?_ ?_ ?_ ?_ ?_ ?_ ?_ ?_; rotate_right 12; (rotate_left 3; (k_asm); rotate_right 3); (rotate_left 5; (omega); rotate_right 5); (rotate_left 5; (omega); rotate_right 5); (rotate_left 1; (k_asm); rotate_right 1); (k_asm); (k_asm); (k_asm); (exact rfl); (ktr_room); (ktr_units)); (focus ((intro hP tD hD tkD fD nD; (try dsimp only)))); (rotate_left 1; (focus ((intro hP eX gX hX tkX fX RX UX; (try dsimp only)))); rotate_right 1))) | ((k_here; (with_reducible show wpAny _ _ (call (Value.ref 150) [Value.str _ _]) _ _ _); k_dflt (refine' c_place_x _ _ _ _ _ _ _ _ _ _ _ _ _ _ _ _ _ ?_ ?_ ?_ ?_ ?_ ?_ trivial ?_ ?_ ?_; rotate_right 9; (rotate_left 3; (k_asm); rotate_right 3); (rotate_left 1; (k_asm); rotate_right 1); (k_asm); (k_asm); (k_asm); (exact rfl); (ktr_room); (ktr_units)); intro eX gX hX tkX fX RX UX; (try dsimp only))))); trivial
theorem c_left {w : World} {mean : ExcName → Option Value} {mg mb : Str → Option Value} {news : List (Addr × Obj)} {la : Addr} {cc : Nat} {x : Str} {n : Int} {t u : Tok} {wv : Value} : Ct w mean mg mb 255 30 (news) ((la, W.listOf #[.str x t, .int n u] cc) ∈ news ∧ x.length ≤ 100 ∧ -1000 ≤ n ∧ n ≤ 1000) [wv, .ref la] (RetO w news (if 0 ≤ n ∧ n ≤ 255 then .val (fun t => .str (St ((cd x).take n.toNat)) t) else .err "FC")) := by
  refine shed ?_ fun _ n h => ?_
  focus (
  intro dp un gd cn cs a ccd cl outer A₀ base h₀ L m s Q E B F X N T hk hpre hd hu hret
  first | (refine and4 hpre ?_; clear hpre; intro hm hl hn1 hn2) | obtain ⟨hm, hl, hn1, hn2⟩ := hpre
  replace N := news_cons N hm
  refine and2 (ret_if hret) ?_; intro hv hx
  clear hret
  dsimp only [RetV, RetO] at hv
  dsimp only [RetX, RetO] at hx
  k_extra "enter"
  k_steps
  all_goals first
    | (refine end_str hv (by omega) ?_ (by k_asm) (by k_asm) (fun _ hp => by repeat (first | exact hp | apply List.Mem.tail)); (exact slice_b x n (by omega)))
    | (refine end_int hv (by omega) ?_ (by k_asm) (by k_asm) (fun _ hp => by repeat (first | exact hp | apply List.Mem.tail)); (exact slice_b x n (by omega)))
    | exact hx (by omega) _ _ _ _ (by assumption) (flies_sub (by assumption) (fun _ hp => by repeat (first | exact hp | apply List.Mem.tail))) (by assumption)
    | (exfalso; omega)
    | (exfalso; simp_all; done)
  )
  simpa using pick n 5 h
theorem c_left_tm {w : World} {mean : ExcName → Option Value} {mg mb : Str → Option Value} {news : List (Addr × Obj)} {la : Addr} {cc : Nat}  {n k : Int} {t u : Tok} {wv : Value} : Ct w mean mg mb 255 30 (news) ((la, W.listOf #[.int n t, .int k u] cc) ∈ news) [wv, .ref la] (RetO w news (.err "TM")) := by
  refine shed ?_ fun _ n h => ?_
  focus (
  intro dp un gd cn cs a ccd cl outer A₀ base h₀ L m s Q E B F X N T hk hpre hd hu hret
  replace N := news_cons N hpre
  have hx : True → _ := fun _ => hret
  clear hret
  dsimp only [RetX, RetO] at hx
  k_extra "enter"
  k_steps
  all_goals first
    | exact hx (True.intro) _ _ _ _ (by assumption) (flies_sub (by assumption) (fun _ hp => by repeat (first | exact hp | apply List.Mem.tail))) (by assumption)
    | (exfalso; omega)
    | (exfalso; simp_all; done)
  )
  simpa using pick n 5 h
theorem c_right {w : World} {mean : ExcName → Option Value} {mg mb : Str → Option Value} {news : List (Addr × Obj)} {la : Addr} {cc : Nat} {x : Str} {n : Int} {t u : Tok} {wv : Value} : Ct w mean mg mb 262 30 (news) ((la, W.listOf #[.str x t, .int n u] cc) ∈ news ∧ x.length ≤ 100 ∧ -1000 ≤ n ∧ n ≤ 1000) [wv, .ref la] (RetO w news (if 0 ≤ n ∧ n ≤ 255 then .val (fun t => .str (St ((cd x).drop (x.length - n.toNat))) t) else .err "FC")) := by
  refine shed ?_ fun _ n h => ?_
  focus (
  intro dp un gd cn cs a ccd cl outer A₀ base h₀ L m s Q E B F X N T hk hpre hd hu hret
  first | (refine and4 hpre ?_; clear hpre; intro hm hl hn1 hn2) | obtain ⟨hm, hl, hn1, hn2⟩ := hpre
  replace N := news_cons N hm
  refine and2 (ret_if hret) ?_; intro hv hx
  clear hret
  dsimp only [RetV, RetO] at hv
  dsimp only [RetX, RetO] at hx
  k_extra "enter"
  k_steps
  all_goals first
    | (refine end_str hv (by omega) ?_ (by k_asm) (by k_asm) (fun _ hp => by repeat (first | exact hp | apply List.Mem.tail)); exact (slice_a x _ (by split <;> omega)).trans (by rw [right_idx (by omega)]))
    | (refine end_int hv (by omega) ?_ (by k_asm) (by k_asm) (fun _ hp => by repeat (first | exact hp | apply List.Mem.tail)); exact (slice_a x _ (by split <;> omega)).trans (by rw [right_idx (by omega)]))
    | exact hx (by omega) _ _ _ _ (by assumption) (flies_sub (by assumption) (fun _ hp => by repeat (first | exact hp | apply List.Mem.tail))) (by assumption)
    | (exfalso; omega)
    | (exfalso; simp_all; done)
  )
  simpa using pick n 5 h
theorem c_mid2 {w : World} {mean : ExcName → Option Value} {mg mb : Str → Option Value} {news : List (Addr × Obj)} {la : Addr} {cc : Nat} {x : Str} {n : Int} {t u : Tok} {wv : Value} : Ct w mean mg mb 269 30 (news) ((la, W.listOf #[.str x t, .int n u] cc) ∈ news ∧ x.length ≤ 100 ∧ -1000 ≤ n ∧ n ≤ 1000) [wv, .ref la] (RetO w news (if 1 ≤ n ∧ n ≤ 255 then .val (fun t => .str (St ((cd x).drop (n - 1).toNat)) t) else .err "FC")) := by
  refine shed ?_ fun _ n h => ?_
  focus (
  intro dp un gd cn cs a ccd cl outer A₀ base h₀ L m s Q E B F X N T hk hpre hd hu hret
  first | (refine and4 hpre ?_; clear hpre; intro hm hl hn1 hn2) | obtain ⟨hm, hl, hn1, hn2⟩ := hpre
  replace N := news_cons N hm
  refine and2 (ret_if hret) ?_; intro hv hx
  clear hret
  dsimp only [RetV, RetO] at hv
  dsimp only [RetX, RetO] at hx
  k_extra "enter"
  k_steps
  all_goals first
    | (refine end_str hv (by omega) ?_ (by k_asm) (by k_asm) (fun _ hp => by repeat (first | exact hp | apply List.Mem.tail)); (refine (slice_ab x _ _ (by omega) (by omega)).trans ?_; rw [List.take_of_length_le (by rw [cd_len]; omega)]))
    | (refine end_int hv (by omega) ?_ (by k_asm) (by k_asm) (fun _ hp => by repeat (first | exact hp | apply List.Mem.tail)); (refine (slice_ab x _ _ (by omega) (by omega)).trans ?_; rw [List.take_of_length_le (by rw [cd_len]; omega)]))
    | exact hx (by omega) _ _ _ _ (by assumption) (flies_sub (by assumption) (fun _ hp => by repeat (first | exact hp | apply List.Mem.tail))) (by assumption)
    | (exfalso; omega)
    | (exfalso; simp_all; done)
  )
  simpa using pick n 5 h
theorem c_mid3 {w : World} {mean : ExcName → Option Value} {mg mb : Str → Option Value} {news : List (Addr × Obj)} {la : Addr} {cc : Nat} {x : Str} {n k : Int} {t u v : Tok} {wv : Value} : Ct w mean mg mb 269 30 (news) ((la, W.listOf #[.str x t, .int n u, .int k v] cc) ∈ news ∧ x.length ≤ 100 ∧ -1000 ≤ n ∧ n ≤ 1000 ∧ -1000 ≤ k ∧ k ≤ 1000) [wv, .ref la] (RetO w news (if (1 ≤ n ∧ n ≤ 255) ∧ 0 ≤ k ∧ k ≤ 255 then .val (fun t => .str (St (((cd x).take (n - 1 + k).toNat).drop (n - 1).toNat)) t) else .err "FC")) := by
  refine shed ?_ fun _ n h => ?_
  focus (
  intro dp un gd cn cs a ccd cl outer A₀ base h₀ L m s Q E B F X N T hk hpre hd hu hret
  first | (refine and6 hpre ?_; clear hpre; intro hm hl hn1 hn2 hk1 hk2) | obtain ⟨hm, hl, hn1, hn2, hk1, hk2⟩ := hpre
  replace N := news_cons N hm
  refine and2 (ret_if hret) ?_; intro hv hx
  clear hret
  dsimp only [RetV, RetO] at hv
  dsimp only [RetX, RetO] at hx
  k_extra "enter"
  k_steps
  all_goals first
    | (refine end_str hv (by omega) ?_ (by k_asm) (by k_asm) (fun _ hp => by repeat (first | exact hp | apply List.Mem.tail)); (exact (slice_ab x _ _ (by omega) (by omega))))
    | (refine end_int hv (by omega) ?_ (by k_asm) (by k_asm) (fun _ hp => by repeat (first | exact hp | apply List.Mem.tail)); (exact (slice_ab x _ _ (by omega) (by omega))))
    | exact hx (by omega) _ _ _ _ (by assumption) (flies_sub (by assumption) (fun _ hp => by repeat (first | exact hp | apply List.Mem.tail))) (by assumption)
    | (exfalso; omega)
    | (exfalso; simp_all; done)
  )
  simpa using pick n 5 h
theorem c_mid3t {w : World} {mean : ExcName → Option Value} {mg mb : Str → Option Value} {news : List (Addr × Obj)} {la : Addr} {cc : Nat} {x : Str} {n k : Int} {t u v : Tok} {wv : Value} {pa : Addr} {vv : Tok} : Ct w mean mg mb 269 30 (news) ((la, W.listOf #[.str x t, .ref pa, .int k v] cc) ∈ news ∧ (pa, ({ cls := .type "tuple", data := .seq #[.int n u, .int 0 vv] } : Obj)) ∈ news ∧ x.length ≤ 100 ∧ -1000 ≤ n ∧ n ≤ 1000 ∧ -1000 ≤ k ∧ k ≤ 1000) [wv, .ref la] (RetO w news (if (1 ≤ n ∧ n ≤ 255) ∧ 0 ≤ k ∧ k ≤ 255 then .val (fun t => .str (St (((cd x).take (n - 1 + k).toNat).drop (n - 1).toNat)) t) else .err "FC")) := by
  refine shed ?_ fun _ n h => ?_
  focus (
  intro dp un gd cn cs a ccd cl outer A₀ base h₀ L m s Q E B F X N T hk hpre hd hu hret
  first | (refine and7 hpre ?_; clear hpre; intro hm hm2 hl hn1 hn2 hk1 hk2) | obtain ⟨hm, hm2, hl, hn1, hn2, hk1, hk2⟩ := hpre
  replace N := news_cons (news_cons N hm2) (.tail _ hm)
  refine and2 (ret_if hret) ?_; intro hv hx
  clear hret
  dsimp only [RetV, RetO] at hv
  dsimp only [RetX, RetO] at hx
  k_extra "enter"
  k_steps
  all_goals (try simp only [show n * 10 ^ Int.toNat 0 = n by simp] at *)
  all_goals first
    | (refine end_str hv (by omega) ?_ (by k_asm) (by k_asm) (fun _ hp => by repeat (first | exact hp | apply List.Mem.tail)); (exact (slice_ab x _ _ (by omega) (by omega))))
    | (refine end_int hv (by omega) ?_ (by k_asm) (by k_asm) (fun _ hp => by repeat (first | exact hp | apply List.Mem.tail)); (exact (slice_ab x _ _ (by omega) (by omega))))
    | exact hx (by omega) _ _ _ _ (by assumption) (flies_sub (by assumption) (fun _ hp => by repeat (first | exact hp | apply List.Mem.tail))) (by assumption)
    | (exfalso; omega)
    | (exfalso; simp_all; done)
  )
  simpa using pick n 5 h
theorem c_mid_tm {w : World} {mean : ExcName → Option Value} {mg mb : Str → Option Value} {news : List (Addr × Obj)} {la : Addr} {cc : Nat} {x : Str}  {t u : Tok} {wv : Value} {y : Str} : Ct w mean mg mb 269 30 (news) ((la, W.listOf #[.str x t, .str y u] cc) ∈ news) [wv, .ref la] (RetO w news (.err "TM")) := by
  refine shed ?_ fun _ n h => ?_
  focus (
  intro dp un gd cn cs a ccd cl outer A₀ base h₀ L m s Q E B F X N T hk hpre hd hu hret
  replace N := news_cons N hpre
  have hx : True → _ := fun _ => hret
  clear hret
  dsimp only [RetX, RetO] at hx
  k_extra "enter"
  k_steps
  all_goals first
    | exact hx (True.intro) _ _ _ _ (by assumption) (flies_sub (by assumption) (fun _ hp => by repeat (first | exact hp | apply List.Mem.tail))) (by assumption)
    | (exfalso; omega)
    | (exfalso; simp_all; done)
  )
  simpa using pick n 5 h
end Mine
end
section
namespace Mine
theorem OT2.gdT2 : True := trivial
open OT2
theorem seg_some {x : Str} {n k : Int} (h : (if 1 > n then 1 else n) ≤ k) : Txt.slice x (some ((if 1 > n then 1 else n) - 1)) (some k) = St (((cd x).take k.toNat).drop (n - 1).toNat) := by
  have h1 : (1 : Int) ≤ (if 1 > n then 1 else n) := by split <;> omega
  refine (slice_ab x _ _ (by omega) (by omega)).trans ?_
  congr 2
  split <;> omega
theorem seg_nil {x : Str} {n k : Int} (h : ¬ (if 1 > n then 1 else n) ≤ k) : Str.ofString "" = St (((cd x).take k.toNat).drop (n - 1).toNat) := by
  have e : ((cd x).take k.toNat).drop (n - 1).toNat = [] := by
    apply List.drop_eq_nil_of_le
    rw [List.length_take]
    refine Nat.le_trans (Nat.min_le_left _ _) ?_
    split at h <;> omega
  rw [e]
  rfl
theorem wd_T2_15 : True := by (k_with "CompEnd" => ((fail_if_success (fail_if_success (have : True := gdT2))); ((k_here; (k_dflt (refine LCg.CompEnd.intro (by assumption) (by assumption) _ (fun _ hp => hp) (by assumption) (by first | exact True.intro | exact Or.inr ⟨_, .head _, rfl, _, rfl⟩) ?_)))))); trivial
theorem c_seg {w : World} {mean : ExcName → Option Value} {mg mb : Str → Option Value} {news : List (Addr × Obj)} {la : Addr} {cc : Nat} {x : Str} {n k : Int} {t u v : Tok} {wv : Value} : Ct w mean mg mb 274 30 (news) ((la, W.listOf #[.str x t, .int n u, .int k v] cc) ∈ news ∧ x.length ≤ 100 ∧ -1000 ≤ n ∧ n ≤ 1000 ∧ -1000 ≤ k ∧ k ≤ 1000) [wv, .ref la] (RetO w news (.val (fun t => .str (St (((cd x).take k.toNat).drop (n - 1).toNat)) t))) := by
  refine shed ?_ fun _ n h => ?_
  focus (
  intro dp un gd cn cs a ccd cl outer A₀ base h₀ L m s Q E B F X N T hk hpre hd hu hret
  first | (refine and6 hpre ?_; clear hpre; intro hm hl hn1 hn2 hk1 hk2) | obtain ⟨hm, hl, hn1, hn2, hk1, hk2⟩ := hpre
  replace N := news_cons N hm
  have hv : True → _ := fun _ => hret
  clear hret
  dsimp only [RetV, RetO] at hv
  k_extra "enter"
  k_steps
  all_goals first
    | (refine end_str hv (True.intro) ?_ (by k_asm) (by k_asm) (fun _ hp => by repeat (first | exact hp | apply List.Mem.tail)); (first | exact seg_some (by assumption) | exact seg_nil (by assumption)))
    | (refine end_int hv (True.intro) ?_ (by k_asm) (by k_asm) (fun _ hp => by repeat (first | exact hp | apply List.Mem.tail)); (first | exact seg_some (by assumption) | exact seg_nil (by assumption)))
    | (exfalso; omega)
    | (exfalso; simp_all; done)
  )
  simpa using pick n 5 h
end Mine
end
section
namespace Mine
theorem OT3.gdT3 : True := trivial
open OT3
theorem wd_T3_1 : True := by (k_with "binaryOp Mult str int" => ((fail_if_success (fail_if_success (have : True := gdT3))); ((k_here; k_dflt (refine' SB.mul (mulOk_of 16 1048576 ?_ ?_ ?_ ?_ ?_) ?_; rotate_right 6; (exact Nat.le_of_ble_eq_true rfl); (omega); (omega); (decide); (decide)); intro _ _)))); trivial
theorem c_chr {w : World} {mean : ExcName → Option Value} {mg mb : Str → Option Value} {news : List (Addr × Obj)} {la : Addr} {cc : Nat}  {n : Int} {u : Tok} {wv : Value} : Ct w mean mg mb 248 30 (news) ((la, W.listOf #[.int n u] cc) ∈ news ∧ -1000 ≤ n ∧ n ≤ 1000) [wv, .ref la] (RetO w news (if 0 ≤ n ∧ n ≤ 255 then .val (fun t => .str (St [n.toNat]) t) else .err "FC")) := by
  refine shed ?_ fun _ n h => ?_
  focus (
  intro dp un gd cn cs a ccd cl outer A₀ base h₀ L m s Q E B F X N T hk hpre hd hu hret
  first | (refine and3 hpre ?_; clear hpre; intro hm hn1 hn2) | obtain ⟨hm, hn1, hn2⟩ := hpre
  replace N := news_cons N hm
  refine and2 (ret_if hret) ?_; intro hv hx
  clear hret
  dsimp only [RetV, RetO] at hv
  dsimp only [RetX, RetO] at hx
  k_extra "enter"
  k_steps
  all_goals (try simp only [gd0, gd1] at *)
  all_goals first
    | (refine end_str hv (by omega) ?_ (by k_asm) (by k_asm) (fun _ hp => by repeat (first | exact hp | apply List.Mem.tail)); (rfl))
    | (refine end_int hv (by omega) ?_ (by k_asm) (by k_asm) (fun _ hp => by repeat (first | exact hp | apply List.Mem.tail)); (rfl))
    | exact hx (by omega) _ _ _ _ (by assumption) (flies_sub (by assumption) (fun _ hp => by repeat (first | exact hp | apply List.Mem.tail))) (by assumption)
    | (exfalso; omega)
    | (exfalso; simp_all; done)
  )
  simpa using pick n 5 h
theorem c_asc {w : World} {mean : ExcName → Option Value} {mg mb : Str → Option Value} {news : List (Addr × Obj)} {la : Addr} {cc : Nat} {x : Str}  {u : Tok} {wv : Value} {c : Nat} : Ct w mean mg mb 227 30 (news) ((la, W.listOf #[.str x u] cc) ∈ news ∧ x = St [c]) [wv, .ref la] (RetO w news (.val (fun t => .int (c : Int) t))) := by
  refine shed ?_ fun _ n h => ?_
  focus (
  intro dp un gd cn cs a ccd cl outer A₀ base h₀ L m s Q E B F X N T hk hpre hd hu hret
  first | (refine and2 hpre ?_; clear hpre; intro hm hl) | obtain ⟨hm, hl⟩ := hpre
  replace N := news_cons N hm
  have hlt : (x == Str.ofString "") = false := by subst hl; rfl
  have hv : True → _ := fun _ => hret
  clear hret
  dsimp only [RetV, RetO] at hv
  k_extra "enter"
  k_steps
  all_goals (try simp only [gd0, gd1] at *)
  all_goals first
    | (refine end_str hv (True.intro) ?_ (by k_asm) (by k_asm) (fun _ hp => by repeat (first | exact hp | apply List.Mem.tail)); (subst hl; rfl))
    | (refine end_int hv (True.intro) ?_ (by k_asm) (by k_asm) (fun _ hp => by repeat (first | exact hp | apply List.Mem.tail)); (subst hl; rfl))
    | (exfalso; omega)
    | (exfalso; simp_all; done)
  )
  simpa using pick n 5 h
theorem c_asc_x {w : World} {mean : ExcName → Option Value} {mg mb : Str → Option Value} {news : List (Addr × Obj)} {la : Addr} {cc : Nat}   {u : Tok} {wv : Value} : Ct w mean mg mb 227 30 (news) ((la, W.listOf #[.str (Str.ofString "") u] cc) ∈ news) [wv, .ref la] (RetO w news (.err "FC")) := by
  refine shed ?_ fun _ n h => ?_
  focus (
  intro dp un gd cn cs a ccd cl outer A₀ base h₀ L m s Q E B F X N T hk hpre hd hu hret
  replace N := news_cons N hpre
  have hx : True → _ := fun _ => hret
  clear hret
  dsimp only [RetX, RetO] at hx
  k_extra "enter"
  k_steps
  all_goals (try simp only [gd0, gd1] at *)
  all_goals first
    | exact hx (True.intro) _ _ _ _ (by assumption) (flies_sub (by assumption) (fun _ hp => by repeat (first | exact hp | apply List.Mem.tail))) (by assumption)
    | (exfalso; omega)
    | (exfalso; simp_all; done)
  )
  simpa using pick n 5 h
theorem c_string_i {w : World} {mean : ExcName → Option Value} {mg mb : Str → Option Value} {news : List (Addr × Obj)} {la : Addr} {cc : Nat}  {n k : Int} {t u : Tok} {wv : Value} : Ct w mean mg mb 295 30 (news) ((la, W.listOf #[.int n t, .int k u] cc) ∈ news ∧ 0 ≤ n ∧ n ≤ 10 ∧ 0 ≤ k ∧ k ≤ 255) [wv, .ref la] (RetO w news (.val (fun t => .str (St (List.replicate n.toNat k.toNat)) t))) := by
  refine shed ?_ fun _ n h => ?_
  focus (
  intro dp un gd cn cs a ccd cl outer A₀ base h₀ L m s Q E B F X N T hk hpre hd hu hret
  first | (refine and5 hpre ?_; clear hpre; intro hm hl hn1 hn2 hk2) | obtain ⟨hm, hl, hn1, hn2, hk2⟩ := hpre
  replace N := news_cons N hm
  have hv : True → _ := fun _ => hret
  clear hret
  dsimp only [RetV, RetO] at hv
  k_extra "enter"
  k_steps
  all_goals (try simp only [gd0, gd1] at *)
  all_goals first
    | (refine end_str hv (True.intro) ?_ (by k_asm) (by k_asm) (fun _ hp => by repeat (first | exact hp | apply List.Mem.tail)); (exact mul_ch _ _))
    | (refine end_int hv (True.intro) ?_ (by k_asm) (by k_asm) (fun _ hp => by repeat (first | exact hp | apply List.Mem.tail)); (exact mul_ch _ _))
    | (exfalso; omega)
    | (exfalso; simp_all; done)
  )
  simpa using pick n 5 h
theorem c_string_s {w : World} {mean : ExcName → Option Value} {mg mb : Str → Option Value} {news : List (Addr × Obj)} {la : Addr} {cc : Nat} {x : Str} {n : Int} {t u : Tok} {wv : Value} : Ct w mean mg mb 295 30 (news) ((la, W.listOf #[.int n t, .str x u] cc) ∈ news ∧ 0 ≤ n ∧ n ≤ 10 ∧ x.length = 2) [wv, .ref la] (RetO w news (.val (fun t => .str (St (List.replicate n.toNat ((cd x).getD 0 0))) t))) := by
  refine shed ?_ fun _ n h => ?_
  focus (
  intro dp un gd cn cs a ccd cl outer A₀ base h₀ L m s Q E B F X N T hk hpre hd hu hret
  first | (refine and4 hpre ?_; clear hpre; intro hm hl hn1 hn2) | obtain ⟨hm, hl, hn1, hn2⟩ := hpre
  replace N := news_cons N hm
  have hlt := len_ne x (by omega)
  have hv : True → _ := fun _ => hret
  clear hret
  dsimp only [RetV, RetO] at hv
  k_extra "enter"
  k_steps
  all_goals (try simp only [gd0, gd1] at *)
  all_goals first
    | (refine end_str hv (True.intro) ?_ (by k_asm) (by k_asm) (fun _ hp => by repeat (first | exact hp | apply List.Mem.tail)); (rw [item_at x 0 (by omega) (by omega)]; exact mul_ch _ _))
    | (refine end_int hv (True.intro) ?_ (by k_asm) (by k_asm) (fun _ hp => by repeat (first | exact hp | apply List.Mem.tail)); (rw [item_at x 0 (by omega) (by omega)]; exact mul_ch _ _))
    | (exfalso; omega)
    | (exfalso; simp_all; done)
  )
  simpa using pick n 5 h
theorem c_space {w : World} {mean : ExcName → Option Value} {mg mb : Str → Option Value} {news : List (Addr × Obj)} {la : Addr} {cc : Nat}  {n : Int} {t : Tok} {wv : Value} : Ct w mean mg mb 288 30 (news) ((la, W.listOf #[.int n t] cc) ∈ news ∧ 0 ≤ n ∧ n ≤ 10) [wv, .ref la] (RetO w news (.val (fun t => .str (St (List.replicate n.toNat 32)) t))) := by
  refine shed ?_ fun _ n h => ?_
  focus (
  intro dp un gd cn cs a ccd cl outer A₀ base h₀ L m s Q E B F X N T hk hpre hd hu hret
  first | (refine and3 hpre ?_; clear hpre; intro hm hn1 hn2) | obtain ⟨hm, hn1, hn2⟩ := hpre
  replace N := news_cons N hm
  have hv : True → _ := fun _ => hret
  clear hret
  dsimp only [RetV, RetO] at hv
  k_extra "enter"
  k_steps
  all_goals (try simp only [gd0, gd1] at *)
  all_goals first
    | (refine end_str hv (True.intro) ?_ (by k_asm) (by k_asm) (fun _ hp => by repeat (first | exact hp | apply List.Mem.tail)); (exact mul_ch 32 _))
    | (refine end_int hv (True.intro) ?_ (by k_asm) (by k_asm) (fun _ hp => by repeat (first | exact hp | apply List.Mem.tail)); (exact mul_ch 32 _))
    | (exfalso; omega)
    | (exfalso; simp_all; done)
  )
  simpa using pick n 5 h
end Mine
end
section
open PySem.Spec
namespace Mine
noncomputable abbrev hitAt (x y : Str) (v : Int) : Bool := Txt.slice x (some v) (some (v + y.length)) == y
noncomputable def findIx (x y : Str) : Nat → Int → Int
  | 0, _ => 0
  | f + 1, k => if hitAt x y k = true then k + 1 else findIx x y f (k + 1)
noncomputable def foundAt (x y : Str) (n : Int) : Int := if (x.length : Int) < n then 0 else findIx x y ((x.length : Int) - y.length + 1 - (n - 1)).toNat (n - 1)
theorem findIx_skip {x y : Str} {f : Nat} : ∀ (j : Nat) (k : Int), (∀ i : Nat, i < j → hitAt x y (k + i) = false) → findIx x y (j + f) k = findIx x y f (k + j)
  | 0, k, _ => by simp
  | j + 1, k, h => by
    have h0 := h 0 (Nat.succ_pos _)
    rw [show j + 1 + f = (j + f) + 1 by lia]
    rw [show (k : Int) + ((0 : Nat) : Int) = k by lia] at h0
    have e : findIx x y (j + f + 1) k = findIx x y (j + f) (k + 1) := by
      show (if hitAt x y k = true then k + 1 else findIx x y (j + f) (k + 1)) = _
      rw [if_neg (by rw [h0]; decide)]
    rw [e, findIx_skip j (k + 1) fun i hi => ?_]
    · rw [show k + 1 + (j : Int) = k + ((j + 1 : Nat) : Int) by lia]
    · have := h (i + 1) (by omega)
      rw [show k + ((i + 1 : Nat) : Int) = k + 1 + (i : Int) by lia] at this
      exact this
theorem found_init {x y : Str} {n : Int} : ∀ i : Nat, i < ([] : List Int).length → (Txt.slice x (some (n - 1 + i)) (some (n - 1 + i + y.length)) == y) = false := fun i hi => absurd hi (Nat.not_lt_zero _)
theorem found_step {x y : Str} {n k : Int} {pre : List Int} (hk : k = n - 1 + (pre.length : Int)) (hi : ∀ i : Nat, i < pre.length → (Txt.slice x (some (n - 1 + i)) (some (n - 1 + i + y.length)) == y) = false)
    (h : (Txt.slice x (some k) (some (k + y.length)) == y) = false) : ∀ i : Nat, i < (pre ++ [k]).length → (Txt.slice x (some (n - 1 + i)) (some (n - 1 + i + y.length)) == y) = false := by
  intro i hl
  rw [List.length_append, List.length_singleton] at hl
  rcases Nat.lt_or_ge i pre.length with h1 | h1
  · exact hi i h1
  · have e : (n - 1 + (i : Int)) = k := by omega
    rw [e]; exact h
theorem found_hit {x y : Str} {n k : Int} {j : Nat} (hn : ¬ (x.length : Int) < n) (hk : k = n - 1 + (j : Int)) (hj : j < ((x.length : Int) - y.length + 1 - (n - 1)).toNat) (hi : ∀ i : Nat, i < j → (Txt.slice x (some (n - 1 + i)) (some (n - 1 + i + y.length)) == y) = false)
    (h : (Txt.slice x (some k) (some (k + y.length)) == y) = true) : k + 1 = foundAt x y n := by
  unfold foundAt
  rw [if_neg hn]
  obtain ⟨f, hf⟩ : ∃ f, ((x.length : Int) - y.length + 1 - (n - 1)).toNat = j + (f + 1) := ⟨((x.length : Int) - y.length + 1 - (n - 1)).toNat - (j + 1), by omega⟩
  rw [hf, findIx_skip j (n - 1) hi, ← hk]
  unfold findIx
  rw [if_pos h]
theorem found_none {x y : Str} {n : Int} {l : List Int} (hn : ¬ (x.length : Int) < n) (hi : ∀ i : Nat, i < l.length → (Txt.slice x (some (n - 1 + i)) (some (n - 1 + i + y.length)) == y) = false) (hl : l.length = ((x.length : Int) - y.length + 1 - (n - 1)).toNat) : 0 = foundAt x y n := by
  unfold foundAt
  rw [if_neg hn, ← hl, ← Nat.add_zero l.length, findIx_skip (f := 0) l.length (n - 1) hi]
  rfl
theorem found_far {x y : Str} {n : Int} (hn : (x.length : Int) < n) : 0 = foundAt x y n := by
  unfold foundAt
  rw [if_pos hn]
end Mine
end
section
namespace Mine
theorem lay_T4 : True := by w_top off; k_with_none; (k_with "ktr_room" => (first | exact rm1 (by assumption) (by decide) | exact rm0 (by assumption) | exact rm2 (by assumption) (by decide) | exact rm3 (by assumption) (by decide) | exact rm4 (by assumption) (by decide))); (k_with "ktr_units" => (first | exact rm1 (by assumption) (by decide) | exact rm0 (by assumption) | exact rm2 (by assumption) (by decide) | exact rm3 (by assumption) (by decide) | exact rm4 (by assumption) (by decide))); (k_with "k_ne" => (first | assumption | (refine neN ?_; (try dsimp only); first | (refine Nat.ne_of_lt ?_; k_extra "kn"; done) | (refine Nat.ne_of_gt ?_; k_extra "kn"; done) | lia | omega))); (k_with "kn" => (repeat (first | with_reducible assumption | exact an0 (by with_reducible assumption) | exact an1 (by with_reducible assumption) | exact an2 (by with_reducible assumption) | exact an3 (by with_reducible assumption) | exact an4 (by with_reducible assumption) | exact an5 (by with_reducible assumption) | exact an6 (by with_reducible assumption) | exact an7 (by with_reducible assumption) | exact an8 (by with_reducible assumption) | exact ae1 (by with_reducible assumption) | exact ae2 (by with_reducible assumption) | exact ae3 (by with_reducible assumption) | exact ae4 (by with_reducible assumption) | exact ae5 (by with_reducible assumption) | exact ae6 (by with_reducible assumption) | exact ae7 (by with_reducible assumption) | exact ae8 (by with_reducible assumption) | exact Nat.lt_succ_self _ | refine lsu ?_))); (k_with "cF" => ((case kF => k_asm); (case kB => k_asm); (case kX => k_asm); (case kT => k_asm); (case kk => exact rfl))); (k_with "cH" => ((case hd => ktr_room); (case hu => ktr_units))); (k_with "cX" => ((case XB => assumption); (case TB => assumption); (case kD => assumption); (case T0 => first | assumption | exact KtsTurn.refl))); (k_with "So" => ((with_reducible show Stop _); refine Stop.of ?_)); (k_with "omega" => ((k_whole; first | ((with_reducible show (_ : Int) ≤ _); first | with_reducible assumption | decide | exact Int.le_trans (by with_reducible assumption) (by decide) | exact Int.le_trans (Int.le_of_lt (by with_reducible assumption)) (by decide) | exact ile (by with_reducible assumption) (by decide) | ((with_reducible show ((_ : Nat) : Int) ≤ _); exact Int.le_trans (Int.ofNat_le.mpr (by with_reducible assumption)) (by decide)) | exact Int.natCast_nonneg _) | ((with_reducible show (_ : Int) < _); first | with_reducible assumption | decide | exact Int.lt_of_le_of_lt (by with_reducible assumption) (by decide) | exact Int.lt_of_lt_of_le (by with_reducible assumption) (by decide) | exact ilt (by with_reducible assumption) (by decide) | ((with_reducible show ((_ : Nat) : Int) < _); exact Int.lt_of_le_of_lt (Int.ofNat_le.mpr (by with_reducible assumption)) (by decide))) | ((with_reducible show (_ : Nat) ≤ _); first | with_reducible assumption | exact Nat.le_of_ble_eq_true rfl | exact Nat.le_trans (by with_reducible assumption) (by decide)) | ((with_reducible show ¬ ((_ : Int) ≥ _)); refine Int.not_le.mpr ?_; omega) | ((with_reducible show _ ∧ _); refine And.intro ?_ ?_ <;> omega)))); (k_with "subscriptTail Name Constant ref int" => ((k_here; (with_reducible show wpAny _ _ (subscriptTail _ _ (Value.ref _) (Value.int _ _)) _ _ _); (with_unfolding_all refine' item_litK ?_ ?_ ?_ ?_ ?_ ?_; rotate_right 6; (focus ((is_list); done)); (decide); (decide); (rfl); (rotate_left 1; (with_unfolding_all rfl); rotate_right 1); k_whole)))); (k_with "ite" => ((k_closed; k_dflt (first | refine ite_pos (by decide +kernel) ?_ | refine ite_neg (by decide +kernel) ?_)))); (k_with "call builtin:isinstance" => (first | with_reducible refine IsiPair.int_str ?_ | with_reducible refine IsiPair.int_tuple ?_ | with_reducible refine IsiPair.str_str ?_ | with_reducible refine IsiPair.str_tuple ?_)); (k_with "storeName" => ((k_here; k_dflt (refine' storeX_L ?_ ?_ ?_ ?_ ?_; rotate_right 5; (rotate_left 4; (kernel_rfl!); rotate_right 4); (k_asm); (k_asm); (rotate_left 1; (rfl); rotate_right 1); k_whole; intro _ _ _; (try k_sweep))))); (k_with "eval Name" => ((k_here; (fail_if_success (with_reducible show wpAny _ _ (eval (PySem.Expr.Name _ _) (compEnvC _ _ _ _)) _ _ _)); name_kind "cell"; k_dflt (refine' nameX_C ?_ ?_ ?_ ?_ ?_ ?_ ?_ ?_; rotate_right 8; (rotate_left 5; (rfl); rotate_right 5); (rotate_left 5; (kernel_rfl); rotate_right 5); (k_asm); (rfl); (focus ((k_mem); done)); (k_asm); (rotate_left 1; (kernel_rfl); rotate_right 1); k_whole)))); (k_with "eval Name" => ((k_here; (fail_if_success (with_reducible show wpAny _ _ (eval (PySem.Expr.Name _ _) (compEnvC _ _ _ _)) _ _ _)); name_kind "globalImplicit"; k_dflt (first | ((refine' nameX_K ?_ ?_ ?_ ?_ ?_ ?_ ?_ ?_; rotate_right 8; (rotate_left 6; (kernel_rfl); rotate_right 6); (k_asm); (k_asm); (k_asm); (rotate_left 2; (rfl); rotate_right 2); (rotate_left 2; (kernel_rfl); rotate_right 2); (focus ((k_is); done)); k_whole)) | ((refine' nameX_B ?_ ?_ ?_ ?_ ?_ ?_ ?_ ?_ ?_ ?_; rotate_right 10; (rotate_left 8; (kernel_rfl); rotate_right 8); (k_asm); (k_asm); (k_asm); (rotate_left 4; (rfl); rotate_right 4); (rotate_left 4; (kernel_rfl); rotate_right 4); (focus ((k_is); done)); (focus ((boot_fast); done)); (decide +kernel); k_whole)))))); (k_with "eval Name" => ((k_here; (fail_if_success (with_reducible show wpAny _ _ (eval (PySem.Expr.Name _ _) (compEnvC _ _ _ _)) _ _ _)); name_kind "local"; k_dflt (refine' nameX_L ?_ ?_ ?_ ?_ ?_ ?_; rotate_right 6; (rotate_left 4; (kernel_rfl); rotate_right 4); (k_asm); (rotate_left 2; (rfl); rotate_right 2); (rotate_left 2; (kernel_rfl); rotate_right 2); (focus ((((repeat (first | with_reducible exact nm_hit | ((with_reducible refine Eq.trans (nm_miss ?_) ?_; kernel_rfl)))); (try rfl))); done)); k_whole)))); (k_with "exec Raise some none" => ((k_here; k_dflt (refine' raise_leave ?_ ?_ ?_ ?_ ?_ ?_ ?_ ?_ ?_ ?_; rotate_right 10; (k_asm); (k_asm); (k_asm); (k_asm); (k_asm); (exact rfl); (ktr_room); (rotate_left 1; (exact rfl); rotate_right 1); (rotate_left 1; (exact rfl); rotate_right 1)); intro _ _ _ _ _; (try dsimp only)))); (k_with "leaving ref" => ((k_here; k_dflt (refine' leave_next ?_ ?_ ?_ ?_ ?_; rotate_right 5; (rotate_left 2; (assumption); rotate_right 2); (rotate_left 1; (assumption); rotate_right 1); (assumption); (assumption)); intro _ _ _; (try dsimp only)))); (have : (0 : Nat) ≤ 1 := by (first | (walk1; done) | decide)); trivial
theorem OT4.gdT4 : True := trivial
open OT4
theorem wd_T4_2 : True := by (k_with "pyIter ref" => ((fail_if_success (fail_if_success (have : True := gdT4))); ((refine Stop.go ?_)))); (k_with "state" => (first | exact found_init | exact found_step (by assumption) (by assumption) (by assumption))); trivial
theorem c_found {w : World} {mean : ExcName → Option Value} {mg mb : Str → Option Value} {news : List (Addr × Obj)} {x y : Str} {n : Int} {t u v : Tok} : Ct w mean mg mb 164 30 (news) (x.length ≤ 100 ∧ y.length ≤ 100 ∧ 1 ≤ n ∧ n ≤ 1000) [.str x t, .str y u, .int n v] (RetO w news (.val (fun t => .int (foundAt x y n) t))) := by
  refine shed ?_ fun _ n h => ?_
  focus (
  intro dp un gd cn cs a ccd cl outer A₀ base h₀ L m s Q E B F X N T hk hpre hd hu hret
  first | (refine and4 hpre ?_; clear hpre; intro hx hy hn1 hn2) | obtain ⟨hx, hy, hn1, hn2⟩ := hpre
  have hv : True → _ := fun _ => hret
  clear hret
  dsimp only [RetV, RetO] at hv
  refine wpAny_call ?_
  k_dflt cell_enter
  k_steps
  all_goals (try (k_extra "So"; k_here; k_search (fun pre => ∀ i : Nat, i < pre.length → (Txt.slice x (some (n - 1 + i)) (some (n - 1 + i + y.length)) == y) = false); all_goals k_steps))
  all_goals first
    | (refine end_str hv (True.intro) ?_ (by k_asm) (by k_asm) (fun p hp => by first | exact hp | exact .tail _ hp | exact tl2 hp | exact tl3 hp | exact tl4 hp | exact List.mem_append_left _ hp | exact List.mem_append_left _ (.tail _ hp)); (first | exact found_far (by assumption) | exact found_hit (by assumption) (by assumption) (by assumption) (by assumption) (by assumption) | exact found_none (by assumption) (by assumption) (by rw [rangeKs_length])))
    | (refine end_int hv (True.intro) ?_ (by k_asm) (by k_asm) (fun p hp => by first | exact hp | exact .tail _ hp | exact tl2 hp | exact tl3 hp | exact tl4 hp | exact List.mem_append_left _ hp | exact List.mem_append_left _ (.tail _ hp)); (first | exact found_far (by assumption) | exact found_hit (by assumption) (by assumption) (by assumption) (by assumption) (by assumption) | exact found_none (by assumption) (by assumption) (by rw [rangeKs_length])))
    | (exfalso; omega)
    | (exfalso; simp_all; done)
  )
  simpa using pick n 5 h
end Mine
end
section
namespace Mine
theorem lay_T5 : True := by w_top off; k_with_none; (k_with "ktr_room" => (first | exact rm1 (by assumption) (by decide) | exact rm0 (by assumption) | exact rm2 (by assumption) (by decide) | exact rm3 (by assumption) (by decide) | exact rm4 (by assumption) (by decide))); (k_with "ktr_units" => (first | exact rm1 (by assumption) (by decide) | exact rm0 (by assumption) | exact rm2 (by assumption) (by decide) | exact rm3 (by assumption) (by decide) | exact rm4 (by assumption) (by decide))); (k_with "k_ne" => (first | assumption | (refine neN ?_; (try dsimp only); first | (refine Nat.ne_of_lt ?_; k_extra "kn"; done) | (refine Nat.ne_of_gt ?_; k_extra "kn"; done) | lia | omega))); (k_with "kn" => (repeat (first | with_reducible assumption | exact an0 (by with_reducible assumption) | exact an1 (by with_reducible assumption) | exact an2 (by with_reducible assumption) | exact an3 (by with_reducible assumption) | exact an4 (by with_reducible assumption) | exact an5 (by with_reducible assumption) | exact an6 (by with_reducible assumption) | exact an7 (by with_reducible assumption) | exact an8 (by with_reducible assumption) | exact ae1 (by with_reducible assumption) | exact ae2 (by with_reducible assumption) | exact ae3 (by with_reducible assumption) | exact ae4 (by with_reducible assumption) | exact ae5 (by with_reducible assumption) | exact ae6 (by with_reducible assumption) | exact ae7 (by with_reducible assumption) | exact ae8 (by with_reducible assumption) | exact Nat.lt_succ_self _ | refine lsu ?_))); (k_with "cF" => ((case kF => k_asm); (case kB => k_asm); (case kX => k_asm); (case kT => k_asm); (case kk => exact rfl))); (k_with "cH" => ((case hd => ktr_room); (case hu => ktr_units))); (k_with "cX" => ((case XB => assumption); (case TB => assumption); (case kD => assumption); (case T0 => first | assumption | exact KtsTurn.refl))); (k_with "So" => ((with_reducible show Stop _); refine Stop.of ?_)); (k_with "omega" => ((k_whole; first | ((with_reducible show (_ : Int) ≤ _); first | with_reducible assumption | decide | exact Int.le_trans (by with_reducible assumption) (by decide) | exact Int.le_trans (Int.le_of_lt (by with_reducible assumption)) (by decide) | exact ile (by with_reducible assumption) (by decide) | ((with_reducible show ((_ : Nat) : Int) ≤ _); exact Int.le_trans (Int.ofNat_le.mpr (by with_reducible assumption)) (by decide)) | exact Int.natCast_nonneg _) | ((with_reducible show (_ : Int) < _); first | with_reducible assumption | decide | exact Int.lt_of_le_of_lt (by with_reducible assumption) (by decide) | exact Int.lt_of_lt_of_le (by with_reducible assumption) (by decide) | exact ilt (by with_reducible assumption) (by decide) | ((with_reducible show ((_ : Nat) : Int) < _); exact Int.lt_of_le_of_lt (Int.ofNat_le.mpr (by with_reducible assumption)) (by decide))) | ((with_reducible show (_ : Nat) ≤ _); first | with_reducible assumption | exact Nat.le_of_ble_eq_true rfl | exact Nat.le_trans (by with_reducible assumption) (by decide)) | ((with_reducible show ¬ ((_ : Int) ≥ _)); refine Int.not_le.mpr ?_; omega) | ((with_reducible show _ ∧ _); refine And.intro ?_ ?_ <;> omega)))); (k_with "subscriptTail Name Constant ref int" => ((k_here; (with_reducible show wpAny _ _ (subscriptTail _ _ (Value.ref _) (Value.int _ _)) _ _ _); (with_unfolding_all refine' item_litK ?_ ?_ ?_ ?_ ?_ ?_; rotate_right 6; (focus ((is_list); done)); (decide); (decide); (rfl); (rotate_left 1; (with_unfolding_all rfl); rotate_right 1); k_whole)))); (k_with "ite" => ((k_closed; k_dflt (first | refine ite_pos (by decide +kernel) ?_ | refine ite_neg (by decide +kernel) ?_)))); (k_with "call builtin:isinstance" => (first | with_reducible refine IsiPair.int_str ?_ | with_reducible refine IsiPair.int_tuple ?_ | with_reducible refine IsiPair.str_str ?_ | with_reducible refine IsiPair.str_tuple ?_)); (k_with "storeName" => ((k_here; k_dflt (refine' storeX_L ?_ ?_ ?_ ?_ ?_; rotate_right 5; (rotate_left 4; (kernel_rfl!); rotate_right 4); (k_asm); (k_asm); (rotate_left 1; (rfl); rotate_right 1); k_whole; intro _ _ _; (try k_sweep))))); (k_with "eval Name" => ((k_here; (fail_if_success (with_reducible show wpAny _ _ (eval (PySem.Expr.Name _ _) (compEnvC _ _ _ _)) _ _ _)); name_kind "cell"; k_dflt (refine' nameX_C ?_ ?_ ?_ ?_ ?_ ?_ ?_ ?_; rotate_right 8; (rotate_left 5; (rfl); rotate_right 5); (rotate_left 5; (kernel_rfl); rotate_right 5); (k_asm); (rfl); (focus ((k_mem); done)); (k_asm); (rotate_left 1; (kernel_rfl); rotate_right 1); k_whole)))); (k_with "eval Name" => ((k_here; (fail_if_success (with_reducible show wpAny _ _ (eval (PySem.Expr.Name _ _) (compEnvC _ _ _ _)) _ _ _)); name_kind "globalImplicit"; k_dflt (first | ((refine' nameX_K ?_ ?_ ?_ ?_ ?_ ?_ ?_ ?_; rotate_right 8; (rotate_left 6; (kernel_rfl); rotate_right 6); (k_asm); (k_asm); (k_asm); (rotate_left 2; (rfl); rotate_right 2); (rotate_left 2; (kernel_rfl); rotate_right 2); (focus ((k_is); done)); k_whole)) | ((refine' nameX_B ?_ ?_ ?_ ?_ ?_ ?_ ?_ ?_ ?_ ?_; rotate_right 10; (rotate_left 8; (kernel_rfl); rotate_right 8); (k_asm); (k_asm); (k_asm); (rotate_left 4; (rfl); rotate_right 4); (rotate_left 4; (kernel_rfl); rotate_right 4); (focus ((k_is); done)); (focus ((boot_fast); done)); (decide +kernel); k_whole)))))); (k_with "eval Name" => ((k_here; (fail_if_success (with_reducible show wpAny _ _ (eval (PySem.Expr.Name _ _) (compEnvC _ _ _ _)) _ _ _)); name_kind "local"; k_dflt (refine' nameX_L ?_ ?_ ?_ ?_ ?_ ?_; rotate_right 6; (rotate_left 4; (kernel_rfl); rotate_right 4); (k_asm); (rotate_left 2; (rfl); rotate_right 2); (rotate_left 2; (kernel_rfl); rotate_right 2); (focus ((((repeat (first | with_reducible exact nm_hit | ((with_reducible refine Eq.trans (nm_miss ?_) ?_; kernel_rfl)))); (try rfl))); done)); k_whole)))); (k_with "exec Raise some none" => ((k_here; k_dflt (refine' raise_leave ?_ ?_ ?_ ?_ ?_ ?_ ?_ ?_ ?_ ?_; rotate_right 10; (k_asm); (k_asm); (k_asm); (k_asm); (k_asm); (exact rfl); (ktr_room); (rotate_left 1; (exact rfl); rotate_right 1); (rotate_left 1; (exact rfl); rotate_right 1)); intro _ _ _ _ _; (try dsimp only)))); (k_with "leaving ref" => ((k_here; k_dflt (refine' leave_next ?_ ?_ ?_ ?_ ?_; rotate_right 5; (rotate_left 2; (assumption); rotate_right 2); (rotate_left 1; (assumption); rotate_right 1); (assumption); (assumption)); intro _ _ _; (try dsimp only)))); (have : (0 : Nat) ≤ 1 := by (first | (walk1; done) | decide)); trivial
theorem wd_T5_2 : True := by (k_with "execs cons" => (k_here; (with_reducible show wpAny _ _ (execs (_ :: _) _) _ _ _); (try k_made); (refine execsYg ?_); intro _ _)); (k_with "execs cons" => (k_here; (with_reducible show wpAny _ _ (execs (_ :: _) _) _ _ _); (fail_if_success (with_reducible refine gGq GI.z ?_)); (try k_made); k_dflt (refine' withG ?_ ?_ ?_ ?_; rotate_right 4; (k_asm); (k_asm); (rfl); k_whole); intro _ _ _ gGq)); (k_with "exec Assign" => (k_here; refine Assign_NameF ?_)); (k_with "exec Return some" => (k_here; refine Return_someF ?_)); (k_with "eval BinOp" => (first | (k_here; k_compRoot) | refine BinOpF ?_)); (k_with "eval Subscript" => (first | (k_here; k_compRoot) | refine SubscriptF ?_)); (k_with "eval List" => (first | (k_here; k_compRoot) | refine ListF ?_)); (k_with "eval Tuple" => (first | (k_here; k_compRoot) | refine TupleF ?_)); (k_with "callWith" => (refine callWith_biF ?_)); (k_with "spliced" => (k_here; (refine args_consG ?_); intro _)); (k_with "spliced" => (k_here; (with_reducible show wpAny _ _ (spliced (backTo _ (starEach (PySem.Expr.Name _ _ :: _) _))) _ _ _); (with_reducible refine' gGq GI.a ?_ ?_ ?_ ?_; rotate_right 4); k_dflt ((rotate_left 1; (kernel_rfl); rotate_right 1); (k_asm); (focus ((((repeat (first | with_reducible exact nm_hit | ((with_reducible refine Eq.trans (nm_miss ?_) ?_; kernel_rfl)))); (try rfl))); done)); k_whole))); (k_with "spliced" => (k_here; (with_reducible show wpAny _ _ (spliced (backTo _ (starEach (PySem.Expr.Constant _ _ _ :: _) _))) _ _ _); (first | with_reducible refine gGq GI.i ?_ | with_reducible refine gGq GI.t ?_))); (k_with "spliced" => (k_here; (with_reducible show wpAny _ _ (spliced (backTo _ (starEach [] _))) (KCons _ _) _ _); k_dflt (first | ((with_reducible refine' gGq GI.n1 ?_ ?_ ?_; rotate_right 3; (k_asm); (k_asm))) | ((with_reducible refine' gGq GI.n2 ?_ ?_ ?_; rotate_right 3; (k_asm); (k_asm))) | ((with_reducible refine' gGq GI.n3 ?_ ?_ ?_; rotate_right 3; (k_asm); (k_asm))) | ((with_reducible refine' gGq GI.n4 ?_ ?_ ?_; rotate_right 3; (k_asm); (k_asm))) | with_reducible refine gGq GI.b1 ?_ | with_reducible refine gGq GI.b2 ?_ | with_reducible refine gGq GI.l1 ?_ | with_reducible refine gGq GI.l2 ?_ | with_reducible refine gGq GI.l3 ?_ | with_reducible refine gGq GI.t1 ?_ | with_reducible refine gGq GI.t2 ?_ | with_reducible refine gGq GI.t3 ?_))); (k_with "eval Name" => (k_here; (fail_if_success (with_reducible show wpAny _ _ (eval (PySem.Expr.Name _ _) (compEnvC _ _ _ _)) _ _ _)); name_kind "local"; (with_reducible refine' gGq GI.l ?_ ?_ ?_ ?_; rotate_right 4); k_dflt ((rotate_left 1; (kernel_rfl); rotate_right 1); (k_asm); (focus ((((repeat (first | with_reducible exact nm_hit | ((with_reducible refine Eq.trans (nm_miss ?_) ?_; kernel_rfl)))); (try rfl))); done)); k_whole))); (k_with "storeName" => (k_here; (first | ((with_reducible refine' gGq GI.s ?_ ?_ ?_ ?_; rotate_right 4)) | ((with_reducible refine' gGq GI.u ?_ ?_ ?_ ?_; rotate_right 4))); k_dflt ((rotate_left 2; (kernel_rfl!); rotate_right 2); (k_asm); (k_asm); k_whole; intro _ _ _ _ _; (try k_sweep)))); (k_with "eval Call" => (k_here; (with_reducible show wpAny _ _ (eval (PySem.Expr.Call (PySem.Expr.Name _ _) (_ :: _) [] _) _) _ _ _); k_dflt (first | (((with_reducible refine' gGq GI.k ?_ ?_ ?_ ?_ ?_ ?_ ?_ ?_; rotate_right 8); (rotate_left 3; (kernel_rfl); rotate_right 3); (k_asm); (k_asm); (k_asm); (focus ((k_is); done)); (focus ((k_is); done)); (rfl); k_whole)) | (((fail_if_success (with_reducible first | show wpAny _ _ (eval (PySem.Expr.Call (PySem.Expr.Name (PySem.Str.ofString "range") _) _ _ _) _) _ _ _ | show wpAny _ _ (eval (PySem.Expr.Call (PySem.Expr.Name (PySem.Str.ofString "str") _) _ _ _) _) _ _ _ | show wpAny _ _ (eval (PySem.Expr.Call (PySem.Expr.Name (PySem.Str.ofString "enumerate") _) _ _ _) _) _ _ _ | show wpAny _ _ (eval (PySem.Expr.Call (PySem.Expr.Name (PySem.Str.ofString "list") _) _ _ _) _) _ _ _ | show wpAny _ _ (eval (PySem.Expr.Call (PySem.Expr.Name (PySem.Str.ofString "int") _) _ _ _) _) _ _ _ | show wpAny _ _ (eval (PySem.Expr.Call (PySem.Expr.Name (PySem.Str.ofString "tuple") _) _ _ _) _) _ _ _)); (with_reducible refine' gGq GI.b ?_ ?_ ?_ ?_ ?_ ?_ ?_ ?_ ?_; rotate_right 9); (rotate_left 3; (kernel_rfl); rotate_right 3); (k_asm); (k_asm); (k_asm); (focus ((k_is); done)); (focus ((boot_fast); done)); (decide +kernel); (rfl); k_whole))))); (k_with "enter" => (k_dflt (refine' codeG ?_ ?_ ?_ ?_ ?_ ?_ ?_ ?_ ?_ ?_ ?_ ?_ ?_ ?_ ?_ ?_ ?_ ?_; rotate_right 18; (rotate_left 5; (exact rfl); rotate_right 5); (rotate_left 5; (exact rfl); rotate_right 5); (rotate_left 5; (focus ((first | assumption | exact rfl); done)); rotate_right 5); (k_asm); (k_asm); (k_asm); (k_asm); (k_asm); (focus ((k_is); done)); (focus ((k_is); done)); (focus ((k_room); done)); (exact BindsTo.of_eq rfl); (rotate_left 5; (decide); rotate_right 5); (exact locs rfl); (rotate_left 1; (exact rfl); rotate_right 1); (rotate_left 1; (exact rfl); rotate_right 1); (rotate_left 1; (exact rfl); rotate_right 1); k_whole; intro _ _ _ _ _ _ _ _ _ _ _ gBq _ _ gGq; (try k_lift gBq)))); (k_with "call ref" => (k_here; k_extra "enter")); trivial
theorem wd_T5_3 : True := by (k_with "call ref" => (first | ((k_here; (with_reducible show wpAny _ _ (call (Value.ref 72) [Value.str _ _]) _ _ _); k_dflt (refine' c_textof _ _ _ _ _ _ _ _ _ _ _ _ _ _ _ _ _ ?_ ?_ ?_ ?_ ?_ ?_ trivial ?_ ?_ ?_; rotate_right 9; (rotate_left 3; (k_asm); rotate_right 3); (rotate_left 1; (k_asm); rotate_right 1); (k_asm); (k_asm); (k_asm); (exact rfl); (ktr_room); (ktr_units)); intro tD hD tkD fD nD; (try dsimp only))) | ((k_here; (with_reducible show wpAny _ _ (call (Value.ref 72) [Value.int _ _]) _ _ _); k_dflt (refine' c_textof_x _ _ _ _ _ _ _ _ _ _ _ _ _ _ _ _ _ ?_ ?_ ?_ ?_ ?_ ?_ trivial ?_ ?_ ?_; rotate_right 9; (rotate_left 3; (k_asm); rotate_right 3); (rotate_left 1; (k_asm); rotate_right 1); (k_asm); (k_asm); (k_asm); (exact rfl); (ktr_room); (ktr_units)); intro eX gX hX tkX fX RX UX; (try dsimp only))) | ((k_here; (with_reducible show wpAny _ _ (call (Value.ref 143) [Value.int _ _]) _ _ _); k_dflt (refine' c_sizeR ?_ ?_ ?_ ?_ ?_ ?_ ?_ ?_ ?_ ?_ ?_ ?_; rotate_right 12; (rotate_left 3; (k_asm); rotate_right 3); (rotate_left 5; (omega); rotate_right 5); (rotate_left 5; (omega); rotate_right 5); (rotate_left 1; (k_asm); rotate_right 1); (k_asm); (k_asm); (k_asm); (exact rfl); (ktr_room); (ktr_units)); (focus ((intro hP tD hD tkD fD nD; (try dsimp only)))); (rotate_left 1; (focus ((intro hP eX gX hX tkX fX RX UX; (try dsimp only)))); rotate_right 1))) | ((k_here; (with_reducible show wpAny _ _ (call (Value.ref 143) [Value.str _ _]) _ _ _); k_dflt (refine' c_size_x _ _ _ _ _ _ _ _ _ _ _ _ _ _ _ _ _ ?_ ?_ ?_ ?_ ?_ ?_ trivial ?_ ?_ ?_; rotate_right 9; (rotate_left 3; (k_asm); rotate_right 3); (rotate_left 1; (k_asm); rotate_right 1); (k_asm); (k_asm); (k_asm); (exact rfl); (ktr_room); (ktr_units)); intro eX gX hX tkX fX RX UX; (try dsimp only))) | ((k_here; (with_reducible show wpAny _ _ (call (Value.ref 150) [Value.int _ _]) _ _ _); k_dflt (refine' c_placeR ?_ ?_ ?_ ?_ ?_ ?_ ?_ ?_ ?_ ?_ ?_ ?_; rotate_right 12; (rotate_left 3; (k_asm); rotate_right 3); (rotate_left 5; (omega); rotate_right 5); (rotate_left 5; (omega); rotate_right 5); (rotate_left 1; (k_asm); rotate_right 1); (k_asm); (k_asm); (k_asm); (exact rfl); (ktr_room); (ktr_units)); (focus ((intro hP tD hD tkD fD nD; (try dsimp only)))); (rotate_left 1; (focus ((intro hP eX gX hX tkX fX RX UX; (try dsimp only)))); rotate_right 1))) | ((k_here; (with_reducible show wpAny _ _ (call (Value.ref 150) [Value.str _ _]) _ _ _); k_dflt (refine' c_place_x _ _ _ _ _ _ _ _ _ _ _ _ _ _ _ _ _ ?_ ?_ ?_ ?_ ?_ ?_ trivial ?_ ?_ ?_; rotate_right 9; (rotate_left 3; (k_asm); rotate_right 3); (rotate_left 1; (k_asm); rotate_right 1); (k_asm); (k_asm); (k_asm); (exact rfl); (ktr_room); (ktr_units)); intro eX gX hX tkX fX RX UX; (try dsimp only))))); (k_with "call ref" => ((k_here; (with_reducible show wpAny _ _ (call (Value.ref 164) [_, _, _]) _ _ _); k_dflt (refine' c_found _ _ _ _ _ _ _ _ _ _ _ _ _ _ _ _ _ ?_ ?_ ?_ ?_ ?_ ?_ ⟨?_, ?_, ?_, ?_⟩ ?_ ?_ ?_; rotate_right 13; (rotate_left 3; (k_asm); rotate_right 3); (rotate_left 1; (k_asm); rotate_right 1); (k_asm); (k_asm); (k_asm); (exact rfl); (omega); (omega); (omega); (omega); (ktr_room); (ktr_units)); intro tD hD tkD fD nD; (try dsimp only)))); trivial
theorem c_instr2 {w : World} {mean : ExcName → Option Value} {mg mb : Str → Option Value} {news : List (Addr × Obj)} {la : Addr} {cc : Nat} {x y : Str}  {t u : Tok} {wv : Value} : Ct w mean mg mb 241 40 (news) ((la, W.listOf #[.str x t, .str y u] cc) ∈ news ∧ x.length ≤ 100 ∧ y.length ≤ 100) [wv, .ref la] (RetO w news (.val (fun t => .int (foundAt x y 1) t))) := by
  refine shed ?_ fun _ n h => ?_
  focus (
  intro dp un gd cn cs a ccd cl outer A₀ base h₀ L m s Q E B F X N T hk hpre hd hu hret
  first | (refine and3 hpre ?_; clear hpre; intro hm hx hy) | obtain ⟨hm, hx, hy⟩ := hpre
  replace N := news_cons N hm
  have hv : True → _ := fun _ => hret
  clear hret
  dsimp only [RetV, RetO] at hv
  k_extra "enter"
  k_steps
  all_goals first
    | (refine end_str hv (True.intro) ?_ (by k_asm) (by k_asm) (fun p hp => by first | exact hp | exact .tail _ hp | exact tl2 hp | exact tl3 hp | exact tl4 hp | exact List.mem_append_left _ hp | exact List.mem_append_left _ (.tail _ hp)); (rfl))
    | (refine end_int hv (True.intro) ?_ (by k_asm) (by k_asm) (fun p hp => by first | exact hp | exact .tail _ hp | exact tl2 hp | exact tl3 hp | exact tl4 hp | exact List.mem_append_left _ hp | exact List.mem_append_left _ (.tail _ hp)); (rfl))
    | (exfalso; omega)
    | (exfalso; simp_all; done)
  )
  simpa using pick n 5 h
theorem c_instr3 {w : World} {mean : ExcName → Option Value} {mg mb : Str → Option Value} {news : List (Addr × Obj)} {la : Addr} {cc : Nat} {x y : Str} {n : Int} {t u v : Tok} {wv : Value} : Ct w mean mg mb 241 40 (news) ((la, W.listOf #[.int n v, .str x t, .str y u] cc) ∈ news ∧ x.length ≤ 100 ∧ y.length ≤ 100 ∧ -1000 ≤ n ∧ n ≤ 1000) [wv, .ref la] (RetO w news (if 1 ≤ n ∧ n ≤ 255 then .val (fun t => .int (foundAt x y n) t) else .err "FC")) := by
  refine shed ?_ fun _ n h => ?_
  focus (
  intro dp un gd cn cs a ccd cl outer A₀ base h₀ L m s Q E B F X N T hk hpre hd hu hret
  first | (refine and5 hpre ?_; clear hpre; intro hm hx hy hn1 hn2) | obtain ⟨hm, hx, hy, hn1, hn2⟩ := hpre
  replace N := news_cons N hm
  refine and2 (ret_if hret) ?_; intro hv hx
  clear hret
  dsimp only [RetV, RetO] at hv
  dsimp only [RetX, RetO] at hx
  k_extra "enter"
  k_steps
  all_goals first
    | (refine end_str hv (by omega) ?_ (by k_asm) (by k_asm) (fun p hp => by first | exact hp | exact .tail _ hp | exact tl2 hp | exact tl3 hp | exact tl4 hp | exact List.mem_append_left _ hp | exact List.mem_append_left _ (.tail _ hp)); (rfl))
    | (refine end_int hv (by omega) ?_ (by k_asm) (by k_asm) (fun p hp => by first | exact hp | exact .tail _ hp | exact tl2 hp | exact tl3 hp | exact tl4 hp | exact List.mem_append_left _ hp | exact List.mem_append_left _ (.tail _ hp)); (rfl))
    | exact hx (by omega) _ _ _ _ (by assumption) (flies_sub (by assumption) (fun p hp => by first | exact hp | exact .tail _ hp | exact tl2 hp | exact tl3 hp | exact tl4 hp | exact List.mem_append_left _ hp | exact List.mem_append_left _ (.tail _ hp))) (by assumption)
    | (exfalso; omega)
    | (exfalso; simp_all; done)
  )
  simpa using pick n 5 h
end Mine
end
section
open PySem.Spec
namespace Mine
noncomputable abbrev occ (y c : Str) : Bool := (Builtin.Str.occurrences y c 0 y.length 1).isEmpty
theorem occ_ch (y : Str) (c : Nat) : occ y (St [c]) = !decide (c ∈ cd y) := empty_one y c
theorem occ_item (y x : Str) (p : Int) (h0 : 0 ≤ p) (h1 : p < (x.length : Int)) : occ y (Txt.item x p) = !decide ((cd x).getD p.toNat 0 ∈ cd y) := by
  rw [item_at x p h0 h1]
  exact occ_ch y _
noncomputable def blank (c : Nat) : Bool := c == 32 || c == 9
theorem occ_blank (x : Str) (p : Int) (h0 : 0 ≤ p) (h1 : p < (x.length : Int)) : occ (Str.ofString " \t") (Txt.item x p) = !blank ((cd x).getD p.toNat 0) := by
  rw [occ_item _ x p h0 h1]
  congr 1
  rw [show cd (Str.ofString " \t") = [32, 9] from rfl]
  simp [blank, Bool.beq_eq_decide_eq]
noncomputable def lstrip (l : List Nat) : List Nat := l.dropWhile blank
noncomputable def rstrip (l : List Nat) : List Nat := (l.reverse.dropWhile blank).reverse
theorem drop_at (l : List Nat) (p : Nat) (h : p < l.length) : l.drop p = l.getD p 0 :: l.drop (p + 1) := by
  rw [List.drop_eq_getElem_cons h]
  simp [List.getD, h]
theorem take_at (l : List Nat) (p : Nat) (h : p < l.length) : l.take (p + 1) = l.take p ++ [l.getD p 0] := by
  rw [List.take_add_one]
  simp [List.getD, h]
theorem rstrip_snoc (l : List Nat) (c : Nat) (h : blank c = true) : rstrip (l ++ [c]) = rstrip l := by
  simp [rstrip, List.dropWhile_cons, h]
theorem rstrip_snoc_ne (l : List Nat) (c : Nat) (h : blank c = false) : rstrip (l ++ [c]) = l ++ [c] := by
  simp [rstrip, List.dropWhile_cons, h]
theorem lstrip_cons (l : List Nat) (c : Nat) (h : blank c = true) : lstrip (c :: l) = lstrip l := by simp [lstrip, List.dropWhile_cons, h]
theorem lstrip_cons_ne (l : List Nat) (c : Nat) (h : blank c = false) : lstrip (c :: l) = c :: l := by simp [lstrip, List.dropWhile_cons, h]
noncomputable abbrev FlInv (x : Str) (p : Int) : Prop := 0 ≤ p ∧ p ≤ x.length ∧ lstrip (cd x) = lstrip ((cd x).drop p.toNat)
theorem fl_init (x : Str) : FlInv x 0 := ⟨by decide, by omega, rfl⟩
theorem fl_step {x : Str} {p : Int} (h0 : 0 ≤ p) (hi : lstrip (cd x) = lstrip ((cd x).drop p.toNat)) (h1 : p < (x.length : Int)) (h : occ (Str.ofString " \t") (Txt.item x p) = false) : FlInv x (p + 1) := by
  have hb : blank ((cd x).getD p.toNat 0) = true := by
    rw [occ_blank x p h0 h1] at h
    simpa using h
  refine ⟨by omega, by omega, ?_⟩
  rw [hi, drop_at _ _ (by rw [cd_len]; omega), lstrip_cons _ _ hb]
  congr 2
  lia
theorem fl_stop {x : Str} {p : Int} (h0 : 0 ≤ p) (hi : lstrip (cd x) = lstrip ((cd x).drop p.toNat)) (h1 : p < (x.length : Int)) (h : occ (Str.ofString " \t") (Txt.item x p) = true) : Txt.slice x (some p) none = St (lstrip (cd x)) := by
  have hb : blank ((cd x).getD p.toNat 0) = false := by
    rw [occ_blank x p h0 h1] at h
    simpa using h
  rw [slice_a x p h0, hi, drop_at _ _ (by rw [cd_len]; omega), lstrip_cons_ne _ _ hb]
theorem fl_over {x : Str} {p : Int} (h0 : 0 ≤ p) (hi : lstrip (cd x) = lstrip ((cd x).drop p.toNat)) (h1 : ¬ p < (x.length : Int)) : Txt.slice x (some p) none = St (lstrip (cd x)) := by
  rw [slice_a x p h0, hi, List.drop_eq_nil_of_le (by rw [cd_len]; omega)]
  rfl
noncomputable abbrev FrInv (x : Str) (p : Int) : Prop := 0 ≤ p ∧ p ≤ x.length ∧ rstrip (cd x) = rstrip ((cd x).take p.toNat)
theorem fr_init (x : Str) : FrInv x (x.length : Int) := ⟨by omega, by omega, by rw [List.take_of_length_le (by rw [cd_len]; omega)]⟩
theorem fr_step {x : Str} {p : Int} (hl : p ≤ (x.length : Int)) (hi : rstrip (cd x) = rstrip ((cd x).take p.toNat)) (h1 : 0 < p) (h : occ (Str.ofString " \t") (Txt.item x (p - 1)) = false) : FrInv x (p - 1) := by
  have hb : blank ((cd x).getD (p - 1).toNat 0) = true := by
    rw [occ_blank x _ (by omega) (by omega)] at h
    simpa using h
  refine ⟨by omega, by omega, ?_⟩
  rw [hi, show p.toNat = (p - 1).toNat + 1 by omega, take_at _ _ (by rw [cd_len]; omega), rstrip_snoc _ _ hb]
theorem fr_stop {x : Str} {p : Int} (hl : p ≤ (x.length : Int)) (hi : rstrip (cd x) = rstrip ((cd x).take p.toNat)) (h1 : 0 < p) (h : occ (Str.ofString " \t") (Txt.item x (p - 1)) = true) : Txt.slice x none (some p) = St (rstrip (cd x)) := by
  have hb : blank ((cd x).getD (p - 1).toNat 0) = false := by
    rw [occ_blank x _ (by omega) (by omega)] at h
    simpa using h
  rw [slice_b x p (by omega), hi, show p.toNat = (p - 1).toNat + 1 by omega, take_at _ _ (by rw [cd_len]; omega), rstrip_snoc_ne _ _ hb]
theorem fr_over {x : Str} {p : Int} (h0 : 0 ≤ p) (hi : rstrip (cd x) = rstrip ((cd x).take p.toNat)) (h1 : ¬ 0 < p) : Txt.slice x none (some p) = St (rstrip (cd x)) := by
  rw [slice_b x p h0, hi, show p.toNat = 0 by omega]
  rfl
end Mine
end
section
namespace Mine
theorem OT6.gdT6 : True := trivial
open OT6
theorem wd_T6_1 : True := by (k_with "storeName" => (k_here; (first | ((with_reducible refine' gGq GI.p ?_ ?_ ?_ ?_; rotate_right 4)) | ((with_reducible refine' gGq GI.r ?_ ?_ ?_ ?_; rotate_right 4))); k_dflt ((rotate_left 2; (kernel_rfl!); rotate_right 2); (k_asm); (k_asm); k_whole; intro _ _ _; (try k_sweep)))); trivial
theorem wd_T6_2 : True := by (k_with "exec While BoolOp" => ((fail_if_success (fail_if_success (have : True := gdT6))); ((refine Stop.go ?_)))); (k_with "exec While BoolOp cons nil" => ((fail_if_success (fail_if_success (have : True := gdT6))); ((refine Stop.go ?_)))); (k_with "state" => (first | exact fl_init _ | exact fr_init _ | exact fl_step (by assumption) (by assumption) (by assumption) (by assumption) | exact fr_step (by assumption) (by assumption) (by assumption) (by assumption))); trivial
theorem c_fl {w : World} {mean : ExcName → Option Value} {mg mb : Str → Option Value} {news : List (Addr × Obj)} {x : Str} {t u : Tok} : Ct w mean mg mb 171 30 (news) (x.length ≤ 100) [.str x t, .str (Str.ofString " \t") u] (RetO w news (.val (fun t => .str (St (lstrip (cd x))) t))) := by
  refine shed ?_ fun _ n h => ?_
  focus (
  intro dp un gd cn cs a ccd cl outer A₀ base h₀ L m s Q E B F X N T hk hpre hd hu hret
  have hv : True → _ := fun _ => hret
  clear hret
  dsimp only [RetV, RetO] at hv
  k_extra "enter"
  k_steps
  all_goals (try (k_extra "So"; k_here; (k_while (fun _ p => FlInv x p) (fun _ p => (x.length - p).toNat) "at"); all_goals k_steps))
  all_goals first
    | (refine end_str hv (True.intro) ?_ (by k_asm) (by k_asm) (fun p hp => by first | exact hp | exact .tail _ hp | exact tl2 hp | exact tl3 hp | exact tl4 hp | exact List.mem_append_left _ hp | exact List.mem_append_left _ (.tail _ hp)); (first | exact fl_stop (by assumption) (by assumption) (by assumption) (by assumption) | exact fl_over (by assumption) (by assumption) (by assumption)))
    | (refine end_int hv (True.intro) ?_ (by k_asm) (by k_asm) (fun p hp => by first | exact hp | exact .tail _ hp | exact tl2 hp | exact tl3 hp | exact tl4 hp | exact List.mem_append_left _ hp | exact List.mem_append_left _ (.tail _ hp)); (first | exact fl_stop (by assumption) (by assumption) (by assumption) (by assumption) | exact fl_over (by assumption) (by assumption) (by assumption)))
    | (exfalso; omega)
    | (exfalso; simp_all; done)
  )
  simpa using pick n 5 h
theorem c_fr {w : World} {mean : ExcName → Option Value} {mg mb : Str → Option Value} {news : List (Addr × Obj)} {x : Str} {t u : Tok} : Ct w mean mg mb 178 30 (news) (x.length ≤ 100) [.str x t, .str (Str.ofString " \t") u] (RetO w news (.val (fun t => .str (St (rstrip (cd x))) t))) := by
  refine shed ?_ fun _ n h => ?_
  focus (
  intro dp un gd cn cs a ccd cl outer A₀ base h₀ L m s Q E B F X N T hk hpre hd hu hret
  have hv : True → _ := fun _ => hret
  clear hret
  dsimp only [RetV, RetO] at hv
  k_extra "enter"
  k_steps
  all_goals (try (k_extra "So"; k_here; (k_while (fun _ p => FrInv x p) (fun _ p => p.toNat) "end"); all_goals k_steps))
  all_goals first
    | (refine end_str hv (True.intro) ?_ (by k_asm) (by k_asm) (fun p hp => by first | exact hp | exact .tail _ hp | exact tl2 hp | exact tl3 hp | exact tl4 hp | exact List.mem_append_left _ hp | exact List.mem_append_left _ (.tail _ hp)); (first | exact fr_stop (by assumption) (by assumption) (by assumption) (by assumption) | exact fr_over (by assumption) (by assumption) (by assumption)))
    | (refine end_int hv (True.intro) ?_ (by k_asm) (by k_asm) (fun p hp => by first | exact hp | exact .tail _ hp | exact tl2 hp | exact tl3 hp | exact tl4 hp | exact List.mem_append_left _ hp | exact List.mem_append_left _ (.tail _ hp)); (first | exact fr_stop (by assumption) (by assumption) (by assumption) (by assumption) | exact fr_over (by assumption) (by assumption) (by assumption)))
    | (exfalso; omega)
    | (exfalso; simp_all; done)
  )
  simpa using pick n 5 h
end Mine
end
section
namespace Mine
theorem wd_T7_1 : True := by (k_with "storeName" => (k_here; (first | ((with_reducible refine' gGq GI.s ?_ ?_ ?_ ?_; rotate_right 4)) | ((with_reducible refine' gGq GI.u ?_ ?_ ?_ ?_; rotate_right 4))); k_dflt ((rotate_left 2; (kernel_rfl!); rotate_right 2); (k_asm); (k_asm); k_whole; intro _ _ _ _ _; (try k_sweep)))); trivial
theorem wd_T7_2 : True := by (k_with "call ref" => (first | ((k_here; (with_reducible show wpAny _ _ (call (Value.ref 171) [_, _]) _ _ _); k_dflt (refine' c_fl _ _ _ _ _ _ _ _ _ _ _ _ _ _ _ _ _ ?_ ?_ ?_ ?_ ?_ ?_ ?_ ?_ ?_ ?_; rotate_right 10; (rotate_left 3; (k_asm); rotate_right 3); (rotate_left 1; (k_asm); rotate_right 1); (k_asm); (k_asm); (k_asm); (exact rfl); (omega); (ktr_room); (ktr_units)); intro tD hD tkD fD nD; (try dsimp only))) | ((k_here; (with_reducible show wpAny _ _ (call (Value.ref 178) [_, _]) _ _ _); k_dflt (refine' c_fr _ _ _ _ _ _ _ _ _ _ _ _ _ _ _ _ _ ?_ ?_ ?_ ?_ ?_ ?_ ?_ ?_ ?_ ?_; rotate_right 10; (rotate_left 3; (k_asm); rotate_right 3); (rotate_left 1; (k_asm); rotate_right 1); (k_asm); (k_asm); (k_asm); (exact rfl); (omega); (ktr_room); (ktr_units)); intro tD hD tkD fD nD; (try dsimp only))))); trivial
theorem c_ltrim {w : World} {mean : ExcName → Option Value} {mg mb : Str → Option Value} {news : List (Addr × Obj)} {la : Addr} {cc : Nat} {x : Str}  {t : Tok} {wv : Value} : Ct w mean mg mb 333 40 (news) ((la, W.listOf #[.str x t] cc) ∈ news ∧ x.length ≤ 100) [wv, .ref la] (RetO w news (.val (fun t => .str (St (lstrip (cd x))) t))) := by
  refine shed ?_ fun _ n h => ?_
  focus (
  intro dp un gd cn cs a ccd cl outer A₀ base h₀ L m s Q E B F X N T hk hpre hd hu hret
  first | (refine and2 hpre ?_; clear hpre; intro hm hx) | obtain ⟨hm, hx⟩ := hpre
  replace N := news_cons N hm
  have hv : True → _ := fun _ => hret
  clear hret
  dsimp only [RetV, RetO] at hv
  k_extra "enter"
  k_steps
  all_goals first
    | (refine end_str hv (True.intro) ?_ (by k_asm) (by k_asm) (fun p hp => by first | exact hp | exact .tail _ hp | exact tl2 hp | exact tl3 hp | exact tl4 hp | exact List.mem_append_left _ hp | exact List.mem_append_left _ (.tail _ hp)); (rfl))
    | (refine end_int hv (True.intro) ?_ (by k_asm) (by k_asm) (fun p hp => by first | exact hp | exact .tail _ hp | exact tl2 hp | exact tl3 hp | exact tl4 hp | exact List.mem_append_left _ hp | exact List.mem_append_left _ (.tail _ hp)); (rfl))
    | (exfalso; omega)
    | (exfalso; simp_all; done)
  )
  simpa using pick n 5 h
theorem c_rtrim {w : World} {mean : ExcName → Option Value} {mg mb : Str → Option Value} {news : List (Addr × Obj)} {la : Addr} {cc : Nat} {x : Str}  {t : Tok} {wv : Value} : Ct w mean mg mb 340 40 (news) ((la, W.listOf #[.str x t] cc) ∈ news ∧ x.length ≤ 100) [wv, .ref la] (RetO w news (.val (fun t => .str (St (rstrip (cd x))) t))) := by
  refine shed ?_ fun _ n h => ?_
  focus (
  intro dp un gd cn cs a ccd cl outer A₀ base h₀ L m s Q E B F X N T hk hpre hd hu hret
  first | (refine and2 hpre ?_; clear hpre; intro hm hx) | obtain ⟨hm, hx⟩ := hpre
  replace N := news_cons N hm
  have hv : True → _ := fun _ => hret
  clear hret
  dsimp only [RetV, RetO] at hv
  k_extra "enter"
  k_steps
  all_goals first
    | (refine end_str hv (True.intro) ?_ (by k_asm) (by k_asm) (fun p hp => by first | exact hp | exact .tail _ hp | exact tl2 hp | exact tl3 hp | exact tl4 hp | exact List.mem_append_left _ hp | exact List.mem_append_left _ (.tail _ hp)); (rfl))
    | (refine end_int hv (True.intro) ?_ (by k_asm) (by k_asm) (fun p hp => by first | exact hp | exact .tail _ hp | exact tl2 hp | exact tl3 hp | exact tl4 hp | exact List.mem_append_left _ hp | exact List.mem_append_left _ (.tail _ hp)); (rfl))
    | (exfalso; omega)
    | (exfalso; simp_all; done)
  )
  simpa using pick n 5 h
end Mine
end
section
open PySem.Spec
namespace Mine
noncomputable def upc (c : Nat) : Nat := if 97 ≤ c ∧ c ≤ 122 then c - 32 else c
noncomputable def loc (c : Nat) : Nat := if 65 ≤ c ∧ c ≤ 90 then c + 32 else c
theorem one_lt (c d : Nat) : ([c] : List Nat) < [d] ↔ c < d := by
  constructor
  · intro h
    cases h with
    | rel h => exact h
    | cons h => cases h
  · exact fun h => .rel h
theorem lt_a (c : Nat) : (St [c]).cps.toList < (Str.ofString "a").cps.toList ↔ c < 97 := one_lt c 97
theorem lt_z (c : Nat) : (Str.ofString "z").cps.toList < (St [c]).cps.toList ↔ 122 < c := one_lt 122 c
theorem lt_A (c : Nat) : (St [c]).cps.toList < (Str.ofString "A").cps.toList ↔ c < 65 := one_lt c 65
theorem lt_Z (c : Nat) : (Str.ofString "Z").cps.toList < (St [c]).cps.toList ↔ 90 < c := one_lt 90 c
theorem great_low {c : Nat} (h : ¬ (St [c]).cps.toList < (Str.ofString "a").cps.toList) : (0 : Int) ≤ (c : Int) - 32 := by rw [lt_a] at h; omega
theorem great_1 {c : Nat} (h : (St [c]).cps.toList < (Str.ofString "a").cps.toList) : St [c] = St [upc c] := by
  rw [lt_a] at h
  rw [upc, if_neg (by omega)]
theorem great_2 {c : Nat} (h : (Str.ofString "z").cps.toList < (St [c]).cps.toList) : St [c] = St [upc c] := by
  rw [lt_z] at h
  rw [upc, if_neg (by omega)]
theorem great_3 {c : Nat} (h : ¬ (St [c]).cps.toList < (Str.ofString "a").cps.toList) (h2 : ¬ (Str.ofString "z").cps.toList < (St [c]).cps.toList) : (⟨#[((c : Int) - 32).toNat]⟩ : Str) = St [upc c] := by
  rw [lt_a] at h
  rw [lt_z] at h2
  rw [upc, if_pos (by omega), show ((c : Int) - 32).toNat = c - 32 from Int.toNat_sub c 32]
theorem small_1 {c : Nat} (h : (St [c]).cps.toList < (Str.ofString "A").cps.toList) : St [c] = St [loc c] := by
  rw [lt_A] at h
  rw [loc, if_neg (by omega)]
theorem small_2 {c : Nat} (h : (Str.ofString "Z").cps.toList < (St [c]).cps.toList) : St [c] = St [loc c] := by
  rw [lt_Z] at h
  rw [loc, if_neg (by omega)]
theorem small_3 {c : Nat} (h : ¬ (St [c]).cps.toList < (Str.ofString "A").cps.toList) (h2 : ¬ (Str.ofString "Z").cps.toList < (St [c]).cps.toList) : (⟨#[((c : Int) + 32).toNat]⟩ : Str) = St [loc c] := by
  rw [lt_A] at h
  rw [lt_Z] at h2
  rw [loc, if_pos (by omega), show ((c : Int) + 32).toNat = c + 32 by lia]
end Mine
end
section
namespace Mine
theorem OT9.gdT9 : True := trivial
open OT9
theorem wd_T9_1 : True := by (k_with "storeName" => (k_here; (first | ((with_reducible refine' gGq GI.p ?_ ?_ ?_ ?_; rotate_right 4)) | ((with_reducible refine' gGq GI.r ?_ ?_ ?_ ?_; rotate_right 4))); k_dflt ((rotate_left 2; (kernel_rfl!); rotate_right 2); (k_asm); (k_asm); k_whole; intro _ _ _; (try k_sweep)))); trivial
theorem wd_T9_3 : True := by (k_with "call builtin:chr" => ((fail_if_success (fail_if_success (have : True := gdT9))); ((k_here; k_dflt (refine' chr_of_range ?_ ?_ ?_; rotate_right 3; (focus ((first | omega | exact great_low (by assumption)); done)); (omega)))))); trivial
theorem c_great {w : World} {mean : ExcName → Option Value} {mg mb : Str → Option Value} {news : List (Addr × Obj)} {c : Nat} {t : Tok} : Ct w mean mg mb 185 20 (news) (c ≤ 255) [.str (St [c]) t] (RetO w news (.val (fun t => .str (St [upc c]) t))) := by
  refine shed ?_ fun _ n h => ?_
  focus (
  intro dp un gd cn cs a ccd cl outer A₀ base h₀ L m s Q E B F X N T hk hpre hd hu hret
  have hv : True → _ := fun _ => hret
  clear hret
  dsimp only [RetV, RetO] at hv
  k_extra "enter"
  k_steps
  all_goals first
    | (refine end_str hv (True.intro) ?_ (by k_asm) (by k_asm) (fun p hp => by first | exact hp | exact .tail _ hp | exact tl2 hp | exact tl3 hp | exact tl4 hp | exact List.mem_append_left _ hp | exact List.mem_append_left _ (.tail _ hp)); (first | exact great_1 (by assumption) | exact great_2 (by assumption) | exact great_3 (by assumption) (by assumption)))
    | (refine end_int hv (True.intro) ?_ (by k_asm) (by k_asm) (fun p hp => by first | exact hp | exact .tail _ hp | exact tl2 hp | exact tl3 hp | exact tl4 hp | exact List.mem_append_left _ hp | exact List.mem_append_left _ (.tail _ hp)); (first | exact great_1 (by assumption) | exact great_2 (by assumption) | exact great_3 (by assumption) (by assumption)))
    | (exfalso; omega)
    | (exfalso; simp_all; done)
  )
  simpa using pick n 5 h
theorem c_small {w : World} {mean : ExcName → Option Value} {mg mb : Str → Option Value} {news : List (Addr × Obj)} {c : Nat} {t : Tok} : Ct w mean mg mb 192 20 (news) (c ≤ 255) [.str (St [c]) t] (RetO w news (.val (fun t => .str (St [loc c]) t))) := by
  refine shed ?_ fun _ n h => ?_
  focus (
  intro dp un gd cn cs a ccd cl outer A₀ base h₀ L m s Q E B F X N T hk hpre hd hu hret
  have hv : True → _ := fun _ => hret
  clear hret
  dsimp only [RetV, RetO] at hv
  k_extra "enter"
  k_steps
  all_goals first
    | (refine end_str hv (True.intro) ?_ (by k_asm) (by k_asm) (fun p hp => by first | exact hp | exact .tail _ hp | exact tl2 hp | exact tl3 hp | exact tl4 hp | exact List.mem_append_left _ hp | exact List.mem_append_left _ (.tail _ hp)); (first | exact small_1 (by assumption) | exact small_2 (by assumption) | exact small_3 (by assumption) (by assumption)))
    | (refine end_int hv (True.intro) ?_ (by k_asm) (by k_asm) (fun p hp => by first | exact hp | exact .tail _ hp | exact tl2 hp | exact tl3 hp | exact tl4 hp | exact List.mem_append_left _ hp | exact List.mem_append_left _ (.tail _ hp)); (first | exact small_1 (by assumption) | exact small_2 (by assumption) | exact small_3 (by assumption) (by assumption)))
    | (exfalso; omega)
    | (exfalso; simp_all; done)
  )
  simpa using pick n 5 h
end Mine
end
section
namespace Mine
theorem OT8.gdT8 : True := trivial
open OT8
theorem wd_T8_1 : True := by (k_with "storeName" => (k_here; (first | ((with_reducible refine' gGq GI.s ?_ ?_ ?_ ?_; rotate_right 4)) | ((with_reducible refine' gGq GI.u ?_ ?_ ?_ ?_; rotate_right 4))); k_dflt ((rotate_left 2; (kernel_rfl!); rotate_right 2); (k_asm); (k_asm); k_whole; intro _ _ _ _ _; (try k_sweep)))); trivial
theorem wd_T8_3 : True := by (k_with "eval ListComp" => ((fail_if_success (fail_if_success (have : True := gdT8))); ((k_here; k_dflt (refine' comp_inv ?_ ?_ ?_ ?_ ?_ ?_ ?_ ?_; rotate_right 8; (k_asm); (with_unfolding_all rfl); (decide); (rfl); (decide); (rfl); (rotate_left 1; (focus (((intro _; rfl)); done)); rotate_right 1)))))); (k_with "call ref" => (first | ((k_here; (with_reducible show wpAny _ _ (call (Value.ref 185) [_]) _ _ _); k_dflt (refine' c_great _ _ _ _ _ _ _ _ _ _ _ _ _ _ _ _ _ ?_ ?_ ?_ ?_ ?_ ?_ ?_ ?_ ?_ ?_; rotate_right 10; (rotate_left 3; (k_asm); rotate_right 3); (rotate_left 1; (k_asm); rotate_right 1); (k_asm); (k_asm); (k_asm); (exact rfl); (assumption); (ktr_room); (ktr_units)); intro tD hD tkD fD nD; (try dsimp only))) | ((k_here; (with_reducible show wpAny _ _ (call (Value.ref 192) [_]) _ _ _); k_dflt (refine' c_small _ _ _ _ _ _ _ _ _ _ _ _ _ _ _ _ _ ?_ ?_ ?_ ?_ ?_ ?_ ?_ ?_ ?_ ?_; rotate_right 10; (rotate_left 3; (k_asm); rotate_right 3); (rotate_left 1; (k_asm); rotate_right 1); (k_asm); (k_asm); (k_asm); (exact rfl); (assumption); (ktr_room); (ktr_units)); intro tD hD tkD fD nD; (try dsimp only))))); trivial
theorem map_snoc {f : Nat → Nat} {x : Str} {i c : Nat} {ys : List Value} {t : Tok} (h : StrsAre ys (ones (((cd x).take i).map f))) (hc : x.cps[i]? = some c) : StrsAre (ys ++ [.str (St [f c]) t]) (ones (((cd x).take (i + 1)).map f)) := by
  have e : (cd x).take (i + 1) = (cd x).take i ++ [c] := by
    rw [List.take_add_one]
    have : (cd x)[i]? = some c := by simpa [cd] using hc
    rw [this]; rfl
  rw [e, List.map_append]
  exact strs_ones_snoc h
theorem size_len {x : Str} (h : x.length ≤ 100) : x.cps.size ≤ sizeLine := by
  have e : x.length = x.cps.size := rfl
  rw [sizeLine_eq]; omega
theorem map_len {f : Nat → Nat} {x : Str} {i : Nat} {ys : List Value} (h : StrsAre ys (ones (((cd x).take i).map f))) : ys.length ≤ i := by
  rw [strs_len h, ones, List.length_map, List.length_map, List.length_take]
  omega
theorem map_len2 {f : Nat → Nat} {x : Str} {i : Nat} (h : x.length ≤ 100) : (((cd x).take i).map f).length ≤ 10000 := by
  have := cd_len x
  rw [List.length_map, List.length_take]
  omega
theorem mem_of_get {x : Str} {i c : Nat} (h : x.cps[i]? = some c) : c ∈ cd x := by
  have : (cd x)[i]? = some c := by simpa [cd] using h
  exact List.mem_of_getElem? this
theorem map_all (x : Str) (f : Nat → Nat) : St (((cd x).take x.cps.size).map f) = St ((cd x).map f) := by
  rw [List.take_of_length_le (by simp [cd])]
theorem c_ucase {w : World} {mean : ExcName → Option Value} {mg mb : Str → Option Value} {news : List (Addr × Obj)} {la : Addr} {cc : Nat} {x : Str}  {t : Tok} {wv : Value} : Ct w mean mg mb 321 40 (news) ((la, W.listOf #[.str x t] cc) ∈ news ∧ x.length ≤ 100 ∧ (∀ c ∈ cd x, c ≤ 255)) [wv, .ref la] (RetO w news (.val (fun t => .str (St ((cd x).map upc)) t))) := by
  refine shed ?_ fun _ n h => ?_
  focus (
  intro dp un gd cn cs a ccd cl outer A₀ base h₀ L m s Q E B F X N T hk hpre hd hu hret
  first | (refine and3 hpre ?_; clear hpre; intro hm hx hal) | obtain ⟨hm, hx, hal⟩ := hpre
  replace N := news_cons N hm
  have hv : True → _ := fun _ => hret
  clear hret
  dsimp only [RetV, RetO] at hv
  k_extra "enter"
  k_steps
  (rename Fr _ _ _ _ => hF)
  (rename News _ _ _ _ => hN)
  k_dflt (refine' CSrc.text (fun i ys nw => StrsAre ys (ones (((cd x).take i).map upc)) ∧ nw = (la, W.listOf #[.str x t] cc) :: news) rfl hF hN ?a1 ?a2 ?a3 ?a4 ?a5)
  case a1 => exact size_len hx
  case a2 => rintro i ys nw ⟨hs, _⟩; exact map_len hs
  case a3 => exact ⟨.nil, rfl⟩
  case a4 =>
    rintro g i ys nw v I oI C oC D m₂ hh tk E' hi ⟨hs, rfl⟩ _ ⟨c, tv, hc, rfl⟩ hoC hmx F2 N2 hoff hdis
    simp only [LCg.Off3] at hoff
    have hcl : c ≤ 255 := hal c (mem_of_get hc)
    refine wpAny_tests_nil ?_
    simp only [if_true]
    k_steps
    (rename Fr _ _ _ _ => fE)
    (rename News _ _ _ _ => nE)
    refine LCg.CompEnd.intro fE nE ((la, W.listOf #[.str x t] cc) :: news) (fun p hp => hp) hoff trivial ⟨?_, rfl⟩
    exact map_snoc hs hc
  case a5 =>
    rintro g ys nw ⟨hs, rfl⟩ D hh tk F2 N2 _
    k_steps
    refine join_ones_l (isList_of N2 (.head _)) hs (map_len2 hx) fun tj kj => ?_
    k_steps
    exact end_str hv True.intro (map_all x upc) (by k_asm) (by k_asm) (fun p hp => by first | exact hp | exact .tail _ hp | exact tl2 hp | exact tl3 hp | exact tl4 hp | exact List.mem_append_left _ hp | exact List.mem_append_left _ (.tail _ hp))
  )
  simpa using pick n 5 h
theorem c_lcase {w : World} {mean : ExcName → Option Value} {mg mb : Str → Option Value} {news : List (Addr × Obj)} {la : Addr} {cc : Nat} {x : Str}  {t : Tok} {wv : Value} : Ct w mean mg mb 326 40 (news) ((la, W.listOf #[.str x t] cc) ∈ news ∧ x.length ≤ 100 ∧ (∀ c ∈ cd x, c ≤ 255)) [wv, .ref la] (RetO w news (.val (fun t => .str (St ((cd x).map loc)) t))) := by
  refine shed ?_ fun _ n h => ?_
  focus (
  intro dp un gd cn cs a ccd cl outer A₀ base h₀ L m s Q E B F X N T hk hpre hd hu hret
  first | (refine and3 hpre ?_; clear hpre; intro hm hx hal) | obtain ⟨hm, hx, hal⟩ := hpre
  replace N := news_cons N hm
  have hv : True → _ := fun _ => hret
  clear hret
  dsimp only [RetV, RetO] at hv
  k_extra "enter"
  k_steps
  (rename Fr _ _ _ _ => hF)
  (rename News _ _ _ _ => hN)
  k_dflt (refine' CSrc.text (fun i ys nw => StrsAre ys (ones (((cd x).take i).map loc)) ∧ nw = (la, W.listOf #[.str x t] cc) :: news) rfl hF hN ?a1 ?a2 ?a3 ?a4 ?a5)
  case a1 => exact size_len hx
  case a2 => rintro i ys nw ⟨hs, _⟩; exact map_len hs
  case a3 => exact ⟨.nil, rfl⟩
  case a4 =>
    rintro g i ys nw v I oI C oC D m₂ hh tk E' hi ⟨hs, rfl⟩ _ ⟨c, tv, hc, rfl⟩ hoC hmx F2 N2 hoff hdis
    simp only [LCg.Off3] at hoff
    have hcl : c ≤ 255 := hal c (mem_of_get hc)
    refine wpAny_tests_nil ?_
    simp only [if_true]
    k_steps
    (rename Fr _ _ _ _ => fE)
    (rename News _ _ _ _ => nE)
    refine LCg.CompEnd.intro fE nE ((la, W.listOf #[.str x t] cc) :: news) (fun p hp => hp) hoff trivial ⟨?_, rfl⟩
    exact map_snoc hs hc
  case a5 =>
    rintro g ys nw ⟨hs, rfl⟩ D hh tk F2 N2 _
    k_steps
    refine join_ones_l (isList_of N2 (.head _)) hs (map_len2 hx) fun tj kj => ?_
    k_steps
    exact end_str hv True.intro (map_all x loc) (by k_asm) (by k_asm) (fun p hp => by first | exact hp | exact .tail _ hp | exact tl2 hp | exact tl3 hp | exact tl4 hp | exact List.mem_append_left _ hp | exact List.mem_append_left _ (.tail _ hp))
  )
  simpa using pick n 5 h
end Mine
end
section
open PySem.Spec
namespace Mine
noncomputable def ledOne (y : Str) (c : Nat) : List Nat := if c < y.length ∧ 0 < (cd y).getD c 0 then [(cd y).getD c 0] else []
noncomputable def ledAll (y : Str) (l : List Nat) : List Nat := l.flatMap (ledOne y)
theorem led_len (y : Str) : ∀ l : List Nat, (ledAll y l).length ≤ l.length
  | [] => Nat.le_refl _
  | c :: r => by
    have := led_len y r
    simp only [ledAll, List.flatMap_cons, List.length_append, List.length_cons] at this ⊢
    have h1 : (ledOne y c).length ≤ 1 := by unfold ledOne; split <;> simp
    omega
theorem led_snoc (y : Str) (l : List Int) (n : Nat) : ledAll y ((l ++ [(n : Int)]).map Int.toNat) = ledAll y (l.map Int.toNat) ++ ledOne y n := by
  simp [ledAll]
theorem codes_nat (x : Str) : (KStt.codes x).map Int.toNat = cd x := by
  rw [KStt.codes, List.map_map]
  exact List.map_id'' (fun c => Int.toNat_natCast c) _
theorem codes_pre {x : Str} {pre post : List Int} {n : Int} (h : KStt.codes x = pre ++ n :: post) (hx : x.length ≤ 100) : pre.length < 100 := by
  have e := congrArg List.length h
  rw [KStt.codes_length, List.length_append, List.length_cons] at e
  omega
theorem led_skip {y : Str} {n : Nat} (h : ¬ (n : Int) < (y.length : Int)) : ledOne y n = [] := by
  unfold ledOne
  rw [if_neg (by omega)]
theorem led_none {y : Str} {n : Nat} (h1 : (n : Int) < (y.length : Int)) (h : ¬ 0 < (((Txt.item y (n : Int)).cps.getD 0 0 : Nat) : Int)) : ledOne y n = [] := by
  rw [item_at y n (by omega) h1] at h
  unfold ledOne
  rw [if_neg]
  rintro ⟨_, h2⟩
  exact h (by simpa using h2)
theorem led_some {y : Str} {n : Nat} (h1 : (n : Int) < (y.length : Int)) (h : 0 < (((Txt.item y (n : Int)).cps.getD 0 0 : Nat) : Int)) : ledOne y n = [(cd y).getD n 0] ∧ Txt.item y (n : Int) = St [(cd y).getD n 0] := by
  have e := item_at y n (by omega) h1
  rw [e] at h
  refine ⟨?_, e⟩
  unfold ledOne
  rw [if_pos]
  exact ⟨by omega, by simpa using h⟩
theorem led_keep {y : Str} {c : List Value} {pre : List Int} {n : Nat} (hP : StrsAre c (ones (ledAll y (pre.map Int.toNat)))) (h : ledOne y n = []) : StrsAre c (ones (ledAll y ((pre ++ [(n : Int)]).map Int.toNat))) := by
  rw [led_snoc, h, List.append_nil]; exact hP
theorem led_more {y : Str} {c : List Value} {pre : List Int} {n : Nat} {t : Tok} (hP : StrsAre c (ones (ledAll y (pre.map Int.toNat)))) (h1 : (n : Int) < (y.length : Int)) (h : 0 < (((Txt.item y (n : Int)).cps.getD 0 0 : Nat) : Int)) : StrsAre (c ++ [.str (Txt.item y (n : Int)) t]) (ones (ledAll y ((pre ++ [(n : Int)]).map Int.toNat))) := by
  obtain ⟨e1, e2⟩ := led_some h1 h
  rw [led_snoc, e1, e2]
  exact strs_ones_snoc hP
theorem led_size {y x : Str} {c : List Value} {pre post : List Int} {n : Int} (hP : StrsAre c (ones (ledAll y (pre.map Int.toNat)))) (h : KStt.codes x = pre ++ n :: post) (hx : x.length ≤ 100) : c.toArray.size ≤ sizeLine := by
  have h1 := strs_len hP
  have h2 := led_len y (pre.map Int.toNat)
  have h3 := codes_pre h hx
  rw [List.length_map] at h2
  rw [sizeLine_eq, List.size_toArray, h1, ones, List.length_map]
  lia
theorem led_fin (y x : Str) (hx : x.length ≤ 100) : (ledAll y ((KStt.codes x).map Int.toNat)).length ≤ 10000 := by
  have := led_len y ((KStt.codes x).map Int.toNat)
  have h2 := KStt.codes_length x
  rw [List.length_map, h2] at this
  lia
theorem led_eq (y x : Str) : St (ledAll y ((KStt.codes x).map Int.toNat)) = St (ledAll y (cd x)) := by rw [codes_nat]
end Mine
end
section
open PySem.Spec
namespace Mine
noncomputable def hexd (k : Nat) : Nat := if k < 10 then 48 + k else 55 + k
noncomputable def inbF (b : Nat) : Nat → Nat → List Nat → List Nat
  | 0, _, acc => acc
  | f + 1, n, acc => if 0 < n ∨ acc = [] then inbF b f (n / b) (hexd (n % b) :: acc) else acc
noncomputable def inb (b n : Nat) : List Nat := inbF b 20 n []
noncomputable def InbInv (b n : Nat) (k : Int) (x : Str) : Prop := ∃ (f : Nat) (l : List Nat), x = St l ∧ k < 2 ^ f ∧ (l = [] → 1 ≤ f) ∧ l.length + f ≤ 20 ∧ inb b n = inbF b f k.toNat l
theorem inb_init {b n : Nat} (h : n ≤ 65535) : InbInv b n (n : Int) (Str.ofString "") := ⟨20, [], rfl, by omega, by decide, by decide, rfl⟩
theorem item_hex {r : Int} (h0 : 0 ≤ r) (h1 : r < 16) : Txt.item (Str.ofString "0123456789ABCDEF") r = St [hexd r.toNat] := by
  obtain ⟨n, rfl⟩ := Int.eq_ofNat_of_zero_le h0
  exact (by decide +kernel : ∀ n : Nat, n < 16 → Txt.item (Str.ofString "0123456789ABCDEF") (n : Int) = St [hexd n]) n (Int.ofNat_lt.mp h1)
theorem St_app (a b : List Nat) : St a ++ St b = St (a ++ b) := by
  show (⟨_⟩ : Str) = ⟨_⟩
  congr 1
  simp
theorem fmod_nat {k : Int} {b : Nat} (h : 0 ≤ k) (hb : 1 ≤ b) : k.fmod (b : Int) = ((k.toNat % b : Nat) : Int) := by
  obtain ⟨n, rfl⟩ := Int.eq_ofNat_of_zero_le h
  rw [Int.fmod_eq_emod_of_nonneg _ (by omega)]
  simp
theorem fdiv_nat {k : Int} {b : Nat} (h : 0 ≤ k) (hb : 1 ≤ b) : k.fdiv (b : Int) = ((k.toNat / b : Nat) : Int) := by
  obtain ⟨n, rfl⟩ := Int.eq_ofNat_of_zero_le h
  rw [Int.fdiv_eq_ediv_of_nonneg _ (by omega)]
  simp
theorem empty_of {x : Str} (h : (x == Str.ofString "") = true) : x = St [] := by
  have : x = Str.ofString "" := by simpa using h
  rw [this]; rfl
theorem inb_step {b n : Nat} {k : Int} {x : Str} (hb : 2 ≤ b) (hb2 : b ≤ 16) (h0 : 0 ≤ k) (h1 : k ≤ 65535) (h : InbInv b n k x) (hk : 0 < k ∨ (x == Str.ofString "") = true) :
    0 ≤ k.fdiv (b : Int) ∧ k.fdiv (b : Int) ≤ 65535 ∧ (Txt.item (Str.ofString "0123456789ABCDEF") (k.fmod (b : Int)) ++ x).length ≤ 20 ∧ InbInv b n (k.fdiv (b : Int)) (Txt.item (Str.ofString "0123456789ABCDEF") (k.fmod (b : Int)) ++ x) := by
  obtain ⟨f, l, rfl, hf, hl, hlen, e⟩ := h
  have hm := Nat.mod_lt k.toNat (show b > 0 by omega)
  have hd : k.toNat / b ≤ k.toNat := Nat.div_le_self _ _
  have ed : k.fdiv (b : Int) = ((k.toNat / b : Nat) : Int) := fdiv_nat h0 (by omega)
  have em : k.fmod (b : Int) = ((k.toNat % b : Nat) : Int) := fmod_nat h0 (by omega)
  have ei : Txt.item (Str.ofString "0123456789ABCDEF") (k.fmod (b : Int)) = St [hexd (k.toNat % b)] := by
    rw [item_hex (by omega) (by omega), em]
    rfl
  have hc : 0 < k.toNat ∨ l = [] := by
    rcases hk with hk | hk
    · left; omega
    · right
      have := congrArg (fun y : Str => y.cps.toList) (empty_of hk)
      simpa [St] using this
  have hf1 : 1 ≤ f := by
    rcases hc with hc | hc
    · rcases Nat.eq_zero_or_pos f with h0 | h0
      · subst h0
        have : k < 1 := by simpa using hf
        lia
      · exact h0
    · exact hl hc
  obtain ⟨f, rfl⟩ : ∃ g, f = g + 1 := ⟨f - 1, by omega⟩
  have h2 : k.toNat / b ≤ k.toNat / 2 := Nat.div_le_div_left hb (by decide)
  rw [ei, St_app]
  generalize hq : k.toNat / b = q at ed hd h2
  refine ⟨by omega, by omega, ?_, f, [hexd (k.toNat % b)] ++ l, rfl, ?_, fun h => absurd h (by simp), ?_, ?_⟩
  · rw [St_len]; simp only [List.length_append, List.length_singleton]; omega
  · have h3 : (2 : Int) ^ (f + 1) = 2 * 2 ^ f := by rw [Int.pow_succ]; lia
    rw [h3] at hf
    rw [ed]
    omega
  · simp only [List.length_append, List.length_singleton]; omega
  · rw [e, ed]
    show (if 0 < k.toNat ∨ l = [] then inbF b f (k.toNat / b) (hexd (k.toNat % b) :: l) else l) = _
    rw [if_pos hc, hq]
    rfl
theorem inb_stop {b n : Nat} {k : Int} {x : Str} (h : InbInv b n k x) (h1 : ¬ 0 < k) (h2 : (x == Str.ofString "") = false) : x = St (inb b n) := by
  obtain ⟨f, l, rfl, hf, hl, hlen, e⟩ := h
  have hl' : l ≠ [] := by
    rintro rfl
    exact absurd h2 (by decide)
  rw [e]
  cases f with
  | zero => rfl
  | succ f =>
    show St l = St (if 0 < k.toNat ∨ l = [] then _ else l)
    rw [if_neg]
    rintro (h | h)
    · omega
    · exact hl' h
theorem inb_less {b : Nat} {k : Int} {x : Str} (hb : 2 ≤ b) (hb2 : b ≤ 16) (h0 : 0 ≤ k) (hk : 0 < k ∨ (x == Str.ofString "") = true) :
    (k.fdiv (b : Int)).toNat + (if (Txt.item (Str.ofString "0123456789ABCDEF") (k.fmod (b : Int)) ++ x).length = 0 then 1 else 0) < k.toNat + (if x.length = 0 then 1 else 0) := by
  have hm := Nat.mod_lt k.toNat (show b > 0 by omega)
  have ed : k.fdiv (b : Int) = ((k.toNat / b : Nat) : Int) := fdiv_nat h0 (by omega)
  have em : k.fmod (b : Int) = ((k.toNat % b : Nat) : Int) := fmod_nat h0 (by omega)
  have ei : Txt.item (Str.ofString "0123456789ABCDEF") (k.fmod (b : Int)) = St [hexd (k.toNat % b)] := by
    rw [item_hex (by omega) (by omega), em]
    rfl
  have h2 : k.toNat / b ≤ k.toNat / 2 := Nat.div_le_div_left hb (by decide)
  have hn : (Txt.item (Str.ofString "0123456789ABCDEF") (k.fmod (b : Int)) ++ x).length ≠ 0 := by
    rw [ei, Str.length_append]
    have : (St [hexd (k.toNat % b)]).length = 1 := rfl
    omega
  rw [if_neg hn, ed]
  generalize k.toNat / b = q at h2
  rcases hk with hk | hk
  · split <;> lia
  · have hx := empty_of hk
    subst hx
    have : (St []).length = 0 := rfl
    rw [if_pos this]
    by_cases hk : 0 < k <;> omega
end Mine
end
section
open PySem.Spec
namespace Mine
noncomputable abbrev digc (k : Int) : Str := ⟨#[(48 + k.fmod 10).toNat]⟩
noncomputable def FigInv (n : Nat) (k : Int) (x : Str) : Prop := ∃ (f : Nat) (l : List Nat), x = St l ∧ l ≠ [] ∧ k.toNat / 10 < 2 ^ f ∧ l.length + f ≤ 20 ∧ inb 10 n = inbF 10 f (k.toNat / 10) l
theorem digc_eq {k : Int} (h : 0 ≤ k) : digc k = St [hexd (k.toNat % 10)] := by
  have em : k.fmod (10 : Int) = ((k.toNat % 10 : Nat) : Int) := fmod_nat (b := 10) h (by decide)
  have : (48 + k.fmod 10).toNat = hexd (k.toNat % 10) := by
    rw [em]
    unfold hexd
    rw [if_pos (Nat.mod_lt _ (by decide))]
    omega
  show (⟨#[_]⟩ : Str) = ⟨#[_]⟩
  rw [this]
theorem fig_init {k : Int} (h : 0 ≤ k) (h1 : k ≤ 65535) : FigInv k.toNat k (digc k) := by
  refine ⟨19, [hexd (k.toNat % 10)], digc_eq h, by simp, by have := Nat.div_le_self k.toNat 10; omega, Nat.le_refl _, ?_⟩
  show (if 0 < k.toNat ∨ ([] : List Nat) = [] then inbF 10 19 (k.toNat / 10) (hexd (k.toNat % 10) :: []) else []) = _
  rw [if_pos (.inr rfl)]
theorem fig_step {n : Nat} {k : Int} {x : Str} (h0 : 0 ≤ k) (h1 : k ≤ 65535) (h : FigInv n k x) (hk : 9 < k) : 0 ≤ k.fdiv 10 ∧ k.fdiv 10 ≤ 65535 ∧ (digc (k.fdiv 10) ++ x).length ≤ 20 ∧ FigInv n (k.fdiv 10) (digc (k.fdiv 10) ++ x) := by
  obtain ⟨f, l, rfl, hne, hf, hlen, e⟩ := h
  have ed : k.fdiv (10 : Int) = ((k.toNat / 10 : Nat) : Int) := fdiv_nat (b := 10) h0 (by decide)
  have hd0 : 0 ≤ k.fdiv 10 := by omega
  rw [digc_eq hd0, ed, Int.toNat_natCast, St_app]
  have hf1 : 1 ≤ f := by
    rcases Nat.eq_zero_or_pos f with h0 | h0
    · subst h0
      rw [Nat.pow_zero] at hf
      omega
    · exact h0
  obtain ⟨f, rfl⟩ : ∃ g, f = g + 1 := ⟨f - 1, by omega⟩
  refine ⟨by omega, by omega, ?_, f, _, rfl, by simp, ?_, ?_, ?_⟩
  · rw [St_len]; simp only [List.length_append, List.length_singleton]; omega
  · rw [Int.toNat_natCast]
    rw [Nat.pow_succ] at hf
    omega
  · simp only [List.length_append, List.length_singleton]; omega
  · rw [e, Int.toNat_natCast]
    show (if 0 < k.toNat / 10 ∨ l = [] then inbF 10 f (k.toNat / 10 / 10) (hexd (k.toNat / 10 % 10) :: l) else l) = _
    rw [if_pos (.inl (by omega))]
    rfl
theorem fig_stop {n : Nat} {k : Int} {x : Str} (h : FigInv n k x) (h1 : ¬ 9 < k) : x = St (inb 10 n) := by
  obtain ⟨f, l, rfl, hne, hf, hlen, e⟩ := h
  rw [e]
  have hz : k.toNat / 10 = 0 := by omega
  rw [hz]
  cases f with
  | zero => rfl
  | succ f =>
    show St l = St (if 0 < 0 ∨ l = [] then _ else l)
    rw [if_neg]
    rintro (h | h)
    · omega
    · exact hne h
theorem fig_less {k : Int} (h : 9 < k) : (k.fdiv 10).toNat < k.toNat := by
  have ed : k.fdiv (10 : Int) = ((k.toNat / 10 : Nat) : Int) := fdiv_nat (b := 10) (by omega) (by decide)
  rw [ed]
  omega
theorem inbF_len (b : Nat) : ∀ (f n : Nat) (acc : List Nat), (inbF b f n acc).length ≤ f + acc.length
  | 0, _, acc => by simp [inbF]
  | f + 1, n, acc => by
    have := inbF_len b f (n / b) (hexd (n % b) :: acc)
    unfold inbF
    split
    · simp only [List.length_cons] at this; omega
    · lia
theorem inb_len (b n : Nat) : (St (inb b n)).length ≤ 20 := by
  rw [St_len]
  exact inbF_len b 20 n []
theorem abs_nat (n : Int) : (if n < 0 then -n else n).toNat = n.natAbs := by split <;> lia
theorem str_neg {n : Int} (h : n < 0) : Str.ofString "-" ++ St (inb 10 (if n < 0 then -n else n).toNat) = St ((if n < 0 then 45 else 32) :: inb 10 n.natAbs) := by
  rw [abs_nat, if_pos h]
  exact St_app [45] _
theorem str_pos {n : Int} (h : ¬ n < 0) : Str.ofString " " ++ St (inb 10 (if n < 0 then -n else n).toNat) = St ((if n < 0 then 45 else 32) :: inb 10 n.natAbs) := by
  rw [abs_nat, if_neg h]
  exact St_app [32] _
theorem add_fits {x y : Str} (hx : x.length ≤ 10000) (hy : y.length ≤ 10000) : x.length + y.length ≤ sizeLine := by
  rw [sizeLine_eq]; lia
end Mine
end
end
section
namespace Mine
theorem OT14.gdT14 : True := trivial
open OT14
theorem wd_T14_1 : True := by (k_with "storeName" => (k_here; (first | ((with_reducible refine' gGq GI.p ?_ ?_ ?_ ?_; rotate_right 4)) | ((with_reducible refine' gGq GI.r ?_ ?_ ?_ ?_; rotate_right 4))); k_dflt ((rotate_left 2; (kernel_rfl!); rotate_right 2); (k_asm); (k_asm); k_whole; intro _ _ _; (try k_sweep)))); trivial
theorem wd_T14_2 : True := by (k_with "exec While Compare" => ((fail_if_success (fail_if_success (have : True := gdT14))); ((refine Stop.go ?_)))); (k_with "exec While Compare cons cons" => ((fail_if_success (fail_if_success (have : True := gdT14))); ((refine Stop.go ?_)))); (k_with "state" => (first | exact ⟨by omega, by omega, Nat.le_of_ble_eq_true rfl, fig_init (by omega) (by omega)⟩ | exact fig_step (by assumption) (by assumption) (by assumption) (by assumption))); (k_with "measure" => (exact fig_less (by assumption))); trivial
theorem c_figures {w : World} {mean : ExcName → Option Value} {mg mb : Str → Option Value} {news : List (Addr × Obj)} {n : Int} {t : Tok} : Ct w mean mg mb 80 20 (news) (0 ≤ n ∧ n ≤ 65535) [.int n t] (RetO w news (.val (fun t => .str (St (inb 10 n.toNat)) t))) := by
  refine shed ?_ fun _ n h => ?_
  focus (
  intro dp un gd cn cs a ccd cl outer A₀ base h₀ L m s Q E B F X N T hk hpre hd hu hret
  first | (refine and2 hpre ?_; clear hpre; intro hk0 hk1) | obtain ⟨hk0, hk1⟩ := hpre
  have hv : True → _ := fun _ => hret
  clear hret
  dsimp only [RetV, RetO] at hv
  k_extra "enter"
  k_steps
  all_goals (try (k_extra "So"; k_here; (k_while (fun _ k x => 0 ≤ k ∧ k ≤ 65535 ∧ x.length ≤ 20 ∧ FigInv n.toNat k x) (fun _ k x => k.toNat) "number" "found"); all_goals k_steps))
  all_goals first
    | (refine end_str hv (True.intro) ?_ (by k_asm) (by k_asm) (fun p hp => by first | exact hp | exact .tail _ hp | exact tl2 hp | exact tl3 hp | exact tl4 hp | exact List.mem_append_left _ hp | exact List.mem_append_left _ (.tail _ hp)); (exact fig_stop (by assumption) (by assumption)))
    | (refine end_int hv (True.intro) ?_ (by k_asm) (by k_asm) (fun p hp => by first | exact hp | exact .tail _ hp | exact tl2 hp | exact tl3 hp | exact tl4 hp | exact List.mem_append_left _ hp | exact List.mem_append_left _ (.tail _ hp)); (exact fig_stop (by assumption) (by assumption)))
    | (exfalso; omega)
    | (exfalso; simp_all; done)
  )
  simpa using pick n 5 h
end Mine
end
section
local macro_rules | `(tactic| law_fm) => `(tactic| skip)
section
namespace Mine
theorem OT10.gdT10 : True := trivial
open OT10
theorem wd_T10_1 : True := by (k_with "pyIter str" => ((fail_if_success (fail_if_success (have : True := gdT10))); ((refine Stop.go ?_)))); (k_with "exec For Name Name cons nil" => ((fail_if_success (fail_if_success (have : True := gdT10))); ((k_here; (rename Fr _ _ _ _ => lF'); (with_unfolding_all refine' For_invVF lF' ?_ ?_ ?_; rotate_right 3; (exact rfl); (exact rfl); k_whole))))); (k_with "subscriptTail" => ((fail_if_success (fail_if_success (have : True := gdT10))); ((k_here; (with_reducible show wpAny _ _ (subscriptTail _ _ (Value.str _ _) (Value.int _ _)) _ _ _); k_dflt (refine' item_str ?_ ?_ ?_ ?_; rotate_right 4; (focus ((exact fitsSsize_of (N := 9223372036854775808) (by omega) (by omega) (Int.le_refl _)); done)); (omega); (omega)); intro _)))); (k_with "subscriptTail Name Call str int" => ((fail_if_success (fail_if_success (have : True := gdT10))); ((k_here; (with_reducible show wpAny _ _ (subscriptTail _ _ (Value.str _ _) (Value.int _ _)) _ _ _); k_dflt (refine' item_str ?_ ?_ ?_ ?_; rotate_right 4; (focus ((exact fitsSsize_of (N := 9223372036854775808) (by omega) (by omega) (Int.le_refl _)); done)); (omega); (omega)); intro _)))); (k_with "call builtin:list.append" => ((fail_if_success (fail_if_success (have : True := gdT10))); ((k_here; (with_reducible show wpAny _ _ (call (Value.builtin _) [Value.ref _, _]) _ _ _); k_dflt (refine' append_K ?_ ?_ ?_ ?_ ?_; rotate_right 5; (k_asm); (k_asm); (focus ((exact Upd.head (by assumption)); done)); (rotate_left 1; (assumption); rotate_right 1); k_whole); intro h' F' N'; (try k_sweep))))); trivial
theorem c_led {w : World} {mean : ExcName → Option Value} {mg mb : Str → Option Value} {news : List (Addr × Obj)} {x y : Str} {t u : Tok} : Ct w mean mg mb 220 20 (news) (x.length ≤ 100 ∧ y.length ≤ 100) [.str x t, .str y u] (RetO w news (.val (fun t => .str (St (ledAll y (cd x))) t))) := by
  refine shed ?_ fun _ n h => ?_
  focus (
  intro dp un gd cn cs a ccd cl outer A₀ base h₀ L m s Q E B F X N T hk hpre hd hu hret
  first | (refine and2 hpre ?_; clear hpre; intro hx hy) | obtain ⟨hx, hy⟩ := hpre
  have hv : True → _ := fun _ => hret
  clear hret
  dsimp only [RetV, RetO] at hv
  k_extra "enter"
  k_steps
  refine Stop.of ?_
  k_here
  (rename Fr _ _ _ _ => hF)
  (rename News _ _ _ _ => hN)
  (first | (rename AllLt _ news => hl; replace hl := kst_ltOf hl) | (rename ∀ p ∈ news, _ < _ => hl))
  have hlt := fun p hp => Nat.ne_of_lt (hl p hp)
  k_dflt (refine' KStt.kst_text (σ := List Value × Nat) (fun c => (_, W.listOf c.1.toArray c.2) :: news) (fun _ => []) (fun _ => True) [] (fun pre c => StrsAre c.1 (ones (ledAll y (pre.map Int.toNat)))) ([], 0) rfl hF hN trivial (fun _ h => nomatch h) .nil ?a1 ?a2)
  case a1 =>
    intro c pre post n t u h tk own hcodes hoff _ hP F2 N2
    dsimp only [List.cons_append] at N2
    have hoff2 := fun p hp => (List.mem_append.mp hp).elim (hlt p) fun hq => hoff p hq _ (.head _)
    have hsz := led_size hP hcodes hx
    k_steps
    all_goals (rename Fr _ _ _ _ => fE; rename News _ _ _ _ => nE)
    all_goals first
      | exact kst_end (c.1 ++ [_], c.2 + 1) fE nE (fun p hp => by (simp only [List.push_toArray]; first | exact List.mem_append_left _ hp)) (fun p hp => .tail _ (List.mem_append_right _ hp)) rfl trivial (fun _ h => nomatch h) (fun z hz _ _ => (if_neg hz).trans rfl) (led_more hP (by assumption) (by assumption))
      | exact kst_end c fE nE (fun p hp => List.mem_append_left own hp) (fun p hp => .tail _ (List.mem_append_right _ hp)) rfl trivial (fun _ h => nomatch h) (fun z hz _ _ => (if_neg hz).trans rfl) (led_keep hP (led_none (by assumption) (by assumption)))
      | exact kst_end c fE nE (fun p hp => List.mem_append_left own hp) (fun p hp => .tail _ (List.mem_append_right _ hp)) rfl trivial (fun _ h => nomatch h) (fun z hz _ _ => (if_neg hz).trans rfl) (led_keep hP (led_skip (by assumption)))
  case a2 =>
    intro c u h tk _ hP F2 N2
    k_steps
    refine join_ones_l (isList_of N2 (.head _)) hP (led_fin y x hx) fun tj kj => ?_
    k_steps
    exact end_str hv True.intro (led_eq y x) (by k_asm) (by k_asm) (fun p hp => by first | exact hp | exact .tail _ hp | exact tl2 hp | exact tl3 hp | exact tl4 hp | exact List.mem_append_left _ hp | exact List.mem_append_left _ (.tail _ hp))
  )
  simpa using pick n 5 h
end Mine
end
section
namespace Mine
theorem lay_T15 : True := by w_top off; k_with_none; (k_with "ktr_room" => (first | exact rm1 (by assumption) (by decide) | exact rm0 (by assumption) | exact rm2 (by assumption) (by decide) | exact rm3 (by assumption) (by decide) | exact rm4 (by assumption) (by decide))); (k_with "ktr_units" => (first | exact rm1 (by assumption) (by decide) | exact rm0 (by assumption) | exact rm2 (by assumption) (by decide) | exact rm3 (by assumption) (by decide) | exact rm4 (by assumption) (by decide))); (k_with "k_ne" => (first | assumption | (refine neN ?_; (try dsimp only); first | (refine Nat.ne_of_lt ?_; k_extra "kn"; done) | (refine Nat.ne_of_gt ?_; k_extra "kn"; done) | lia | omega))); (k_with "kn" => (repeat (first | with_reducible assumption | exact an0 (by with_reducible assumption) | exact an1 (by with_reducible assumption) | exact an2 (by with_reducible assumption) | exact an3 (by with_reducible assumption) | exact an4 (by with_reducible assumption) | exact an5 (by with_reducible assumption) | exact an6 (by with_reducible assumption) | exact an7 (by with_reducible assumption) | exact an8 (by with_reducible assumption) | exact ae1 (by with_reducible assumption) | exact ae2 (by with_reducible assumption) | exact ae3 (by with_reducible assumption) | exact ae4 (by with_reducible assumption) | exact ae5 (by with_reducible assumption) | exact ae6 (by with_reducible assumption) | exact ae7 (by with_reducible assumption) | exact ae8 (by with_reducible assumption) | exact Nat.lt_succ_self _ | refine lsu ?_))); (k_with "cF" => ((case kF => k_asm); (case kB => k_asm); (case kX => k_asm); (case kT => k_asm); (case kk => exact rfl))); (k_with "cH" => ((case hd => ktr_room); (case hu => ktr_units))); (k_with "cX" => ((case XB => assumption); (case TB => assumption); (case kD => assumption); (case T0 => first | assumption | exact KtsTurn.refl))); (k_with "So" => ((with_reducible show Stop _); refine Stop.of ?_)); (k_with "omega" => ((k_whole; first | ((with_reducible show (_ : Int) ≤ _); first | with_reducible assumption | decide | exact Int.le_trans (by with_reducible assumption) (by decide) | exact Int.le_trans (Int.le_of_lt (by with_reducible assumption)) (by decide) | exact ile (by with_reducible assumption) (by decide) | ((with_reducible show ((_ : Nat) : Int) ≤ _); exact Int.le_trans (Int.ofNat_le.mpr (by with_reducible assumption)) (by decide)) | exact Int.natCast_nonneg _) | ((with_reducible show (_ : Int) < _); first | with_reducible assumption | decide | exact Int.lt_of_le_of_lt (by with_reducible assumption) (by decide) | exact Int.lt_of_lt_of_le (by with_reducible assumption) (by decide) | exact ilt (by with_reducible assumption) (by decide) | ((with_reducible show ((_ : Nat) : Int) < _); exact Int.lt_of_le_of_lt (Int.ofNat_le.mpr (by with_reducible assumption)) (by decide))) | ((with_reducible show (_ : Nat) ≤ _); first | with_reducible assumption | exact Nat.le_of_ble_eq_true rfl | exact Nat.le_trans (by with_reducible assumption) (by decide)) | ((with_reducible show ¬ ((_ : Int) ≥ _)); refine Int.not_le.mpr ?_; omega) | ((with_reducible show _ ∧ _); refine And.intro ?_ ?_ <;> omega)))); (k_with "subscriptTail Name Constant ref int" => ((k_here; (with_reducible show wpAny _ _ (subscriptTail _ _ (Value.ref _) (Value.int _ _)) _ _ _); (with_unfolding_all refine' item_litK ?_ ?_ ?_ ?_ ?_ ?_; rotate_right 6; (focus ((is_list); done)); (decide); (decide); (rfl); (rotate_left 1; (with_unfolding_all rfl); rotate_right 1); k_whole)))); (k_with "ite" => ((k_closed; k_dflt (first | refine ite_pos (by decide +kernel) ?_ | refine ite_neg (by decide +kernel) ?_)))); (k_with "call builtin:isinstance" => (first | with_reducible refine IsiPair.int_str ?_ | with_reducible refine IsiPair.int_tuple ?_ | with_reducible refine IsiPair.str_str ?_ | with_reducible refine IsiPair.str_tuple ?_)); (k_with "storeName" => ((k_here; k_dflt (refine' storeX_L ?_ ?_ ?_ ?_ ?_; rotate_right 5; (rotate_left 4; (kernel_rfl!); rotate_right 4); (k_asm); (k_asm); (rotate_left 1; (rfl); rotate_right 1); k_whole; intro _ _ _; (try k_sweep))))); (k_with "eval Name" => ((k_here; (fail_if_success (with_reducible show wpAny _ _ (eval (PySem.Expr.Name _ _) (compEnvC _ _ _ _)) _ _ _)); name_kind "cell"; k_dflt (refine' nameX_C ?_ ?_ ?_ ?_ ?_ ?_ ?_ ?_; rotate_right 8; (rotate_left 5; (rfl); rotate_right 5); (rotate_left 5; (kernel_rfl); rotate_right 5); (k_asm); (rfl); (focus ((k_mem); done)); (k_asm); (rotate_left 1; (kernel_rfl); rotate_right 1); k_whole)))); (k_with "eval Name" => ((k_here; (fail_if_success (with_reducible show wpAny _ _ (eval (PySem.Expr.Name _ _) (compEnvC _ _ _ _)) _ _ _)); name_kind "globalImplicit"; k_dflt (first | ((refine' nameX_K ?_ ?_ ?_ ?_ ?_ ?_ ?_ ?_; rotate_right 8; (rotate_left 6; (kernel_rfl); rotate_right 6); (k_asm); (k_asm); (k_asm); (rotate_left 2; (rfl); rotate_right 2); (rotate_left 2; (kernel_rfl); rotate_right 2); (focus ((k_is); done)); k_whole)) | ((refine' nameX_B ?_ ?_ ?_ ?_ ?_ ?_ ?_ ?_ ?_ ?_; rotate_right 10; (rotate_left 8; (kernel_rfl); rotate_right 8); (k_asm); (k_asm); (k_asm); (rotate_left 4; (rfl); rotate_right 4); (rotate_left 4; (kernel_rfl); rotate_right 4); (focus ((k_is); done)); (focus ((boot_fast); done)); (decide +kernel); k_whole)))))); (k_with "eval Name" => ((k_here; (fail_if_success (with_reducible show wpAny _ _ (eval (PySem.Expr.Name _ _) (compEnvC _ _ _ _)) _ _ _)); name_kind "local"; k_dflt (refine' nameX_L ?_ ?_ ?_ ?_ ?_ ?_; rotate_right 6; (rotate_left 4; (kernel_rfl); rotate_right 4); (k_asm); (rotate_left 2; (rfl); rotate_right 2); (rotate_left 2; (kernel_rfl); rotate_right 2); (focus ((((repeat (first | with_reducible exact nm_hit | ((with_reducible refine Eq.trans (nm_miss ?_) ?_; kernel_rfl)))); (try rfl))); done)); k_whole)))); (k_with "exec Raise some none" => ((k_here; k_dflt (refine' raise_leave ?_ ?_ ?_ ?_ ?_ ?_ ?_ ?_ ?_ ?_; rotate_right 10; (k_asm); (k_asm); (k_asm); (k_asm); (k_asm); (exact rfl); (ktr_room); (rotate_left 1; (exact rfl); rotate_right 1); (rotate_left 1; (exact rfl); rotate_right 1)); intro _ _ _ _ _; (try dsimp only)))); (k_with "leaving ref" => ((k_here; k_dflt (refine' leave_next ?_ ?_ ?_ ?_ ?_; rotate_right 5; (rotate_left 2; (assumption); rotate_right 2); (rotate_left 1; (assumption); rotate_right 1); (assumption); (assumption)); intro _ _ _; (try dsimp only)))); (have : (0 : Nat) ≤ 1 := by (first | (walk1; done) | decide)); trivial
theorem OT15.gdT15 : True := trivial
open OT15
theorem wd_T15_2 : True := by (k_with "execs cons" => (k_here; (with_reducible show wpAny _ _ (execs (_ :: _) _) _ _ _); (try k_made); (refine execsYg ?_); intro _ _)); (k_with "execs cons" => (k_here; (with_reducible show wpAny _ _ (execs (_ :: _) _) _ _ _); (fail_if_success (with_reducible refine gGq GI.z ?_)); (try k_made); k_dflt (refine' withG ?_ ?_ ?_ ?_; rotate_right 4; (k_asm); (k_asm); (rfl); k_whole); intro _ _ _ gGq)); (k_with "exec Assign" => (k_here; refine Assign_NameF ?_)); (k_with "exec Return some" => (k_here; refine Return_someF ?_)); (k_with "eval BinOp" => (first | (k_here; k_compRoot) | refine BinOpF ?_)); (k_with "eval Subscript" => (first | (k_here; k_compRoot) | refine SubscriptF ?_)); (k_with "eval List" => (first | (k_here; k_compRoot) | refine ListF ?_)); (k_with "eval Tuple" => (first | (k_here; k_compRoot) | refine TupleF ?_)); (k_with "callWith" => (refine callWith_biF ?_)); (k_with "spliced" => (k_here; (refine args_consG ?_); intro _)); (k_with "spliced" => (k_here; (with_reducible show wpAny _ _ (spliced (backTo _ (starEach (PySem.Expr.Name _ _ :: _) _))) _ _ _); (with_reducible refine' gGq GI.a ?_ ?_ ?_ ?_; rotate_right 4); k_dflt ((rotate_left 1; (kernel_rfl); rotate_right 1); (k_asm); (focus ((((repeat (first | with_reducible exact nm_hit | ((with_reducible refine Eq.trans (nm_miss ?_) ?_; kernel_rfl)))); (try rfl))); done)); k_whole))); (k_with "spliced" => (k_here; (with_reducible show wpAny _ _ (spliced (backTo _ (starEach (PySem.Expr.Constant _ _ _ :: _) _))) _ _ _); (first | with_reducible refine gGq GI.i ?_ | with_reducible refine gGq GI.t ?_))); (k_with "spliced" => (k_here; (with_reducible show wpAny _ _ (spliced (backTo _ (starEach [] _))) (KCons _ _) _ _); k_dflt (first | ((with_reducible refine' gGq GI.n1 ?_ ?_ ?_; rotate_right 3; (k_asm); (k_asm))) | ((with_reducible refine' gGq GI.n2 ?_ ?_ ?_; rotate_right 3; (k_asm); (k_asm))) | ((with_reducible refine' gGq GI.n3 ?_ ?_ ?_; rotate_right 3; (k_asm); (k_asm))) | ((with_reducible refine' gGq GI.n4 ?_ ?_ ?_; rotate_right 3; (k_asm); (k_asm))) | with_reducible refine gGq GI.b1 ?_ | with_reducible refine gGq GI.b2 ?_ | with_reducible refine gGq GI.l1 ?_ | with_reducible refine gGq GI.l2 ?_ | with_reducible refine gGq GI.l3 ?_ | with_reducible refine gGq GI.t1 ?_ | with_reducible refine gGq GI.t2 ?_ | with_reducible refine gGq GI.t3 ?_))); (k_with "eval Name" => (k_here; (fail_if_success (with_reducible show wpAny _ _ (eval (PySem.Expr.Name _ _) (compEnvC _ _ _ _)) _ _ _)); name_kind "local"; (with_reducible refine' gGq GI.l ?_ ?_ ?_ ?_; rotate_right 4); k_dflt ((rotate_left 1; (kernel_rfl); rotate_right 1); (k_asm); (focus ((((repeat (first | with_reducible exact nm_hit | ((with_reducible refine Eq.trans (nm_miss ?_) ?_; kernel_rfl)))); (try rfl))); done)); k_whole))); (k_with "storeName" => (k_here; (first | ((with_reducible refine' gGq GI.s ?_ ?_ ?_ ?_; rotate_right 4)) | ((with_reducible refine' gGq GI.u ?_ ?_ ?_ ?_; rotate_right 4))); k_dflt ((rotate_left 2; (kernel_rfl!); rotate_right 2); (k_asm); (k_asm); k_whole; intro _ _ _ _ _; (try k_sweep)))); (k_with "eval Call" => (k_here; (with_reducible show wpAny _ _ (eval (PySem.Expr.Call (PySem.Expr.Name _ _) (_ :: _) [] _) _) _ _ _); k_dflt (first | (((with_reducible refine' gGq GI.k ?_ ?_ ?_ ?_ ?_ ?_ ?_ ?_; rotate_right 8); (rotate_left 3; (kernel_rfl); rotate_right 3); (k_asm); (k_asm); (k_asm); (focus ((k_is); done)); (focus ((k_is); done)); (rfl); k_whole)) | (((fail_if_success (with_reducible first | show wpAny _ _ (eval (PySem.Expr.Call (PySem.Expr.Name (PySem.Str.ofString "range") _) _ _ _) _) _ _ _ | show wpAny _ _ (eval (PySem.Expr.Call (PySem.Expr.Name (PySem.Str.ofString "str") _) _ _ _) _) _ _ _ | show wpAny _ _ (eval (PySem.Expr.Call (PySem.Expr.Name (PySem.Str.ofString "enumerate") _) _ _ _) _) _ _ _ | show wpAny _ _ (eval (PySem.Expr.Call (PySem.Expr.Name (PySem.Str.ofString "list") _) _ _ _) _) _ _ _ | show wpAny _ _ (eval (PySem.Expr.Call (PySem.Expr.Name (PySem.Str.ofString "int") _) _ _ _) _) _ _ _ | show wpAny _ _ (eval (PySem.Expr.Call (PySem.Expr.Name (PySem.Str.ofString "tuple") _) _ _ _) _) _ _ _)); (with_reducible refine' gGq GI.b ?_ ?_ ?_ ?_ ?_ ?_ ?_ ?_ ?_; rotate_right 9); (rotate_left 3; (kernel_rfl); rotate_right 3); (k_asm); (k_asm); (k_asm); (focus ((k_is); done)); (focus ((boot_fast); done)); (decide +kernel); (rfl); k_whole))))); (k_with "enter" => (k_dflt (refine' codeG ?_ ?_ ?_ ?_ ?_ ?_ ?_ ?_ ?_ ?_ ?_ ?_ ?_ ?_ ?_ ?_ ?_ ?_; rotate_right 18; (rotate_left 5; (exact rfl); rotate_right 5); (rotate_left 5; (exact rfl); rotate_right 5); (rotate_left 5; (focus ((first | assumption | exact rfl); done)); rotate_right 5); (k_asm); (k_asm); (k_asm); (k_asm); (k_asm); (focus ((k_is); done)); (focus ((k_is); done)); (focus ((k_room); done)); (exact BindsTo.of_eq rfl); (rotate_left 5; (decide); rotate_right 5); (exact locs rfl); (rotate_left 1; (exact rfl); rotate_right 1); (rotate_left 1; (exact rfl); rotate_right 1); (rotate_left 1; (exact rfl); rotate_right 1); k_whole; intro _ _ _ _ _ _ _ _ _ _ _ gBq _ _ gGq; (try k_lift gBq)))); (k_with "call ref" => (k_here; k_extra "enter")); trivial
theorem wd_T15_3 : True := by (k_with "call ref" => (first | ((k_here; (with_reducible show wpAny _ _ (call (Value.ref 72) [Value.str _ _]) _ _ _); k_dflt (refine' c_textof _ _ _ _ _ _ _ _ _ _ _ _ _ _ _ _ _ ?_ ?_ ?_ ?_ ?_ ?_ trivial ?_ ?_ ?_; rotate_right 9; (rotate_left 3; (k_asm); rotate_right 3); (rotate_left 1; (k_asm); rotate_right 1); (k_asm); (k_asm); (k_asm); (exact rfl); (ktr_room); (ktr_units)); intro tD hD tkD fD nD; (try dsimp only))) | ((k_here; (with_reducible show wpAny _ _ (call (Value.ref 72) [Value.int _ _]) _ _ _); k_dflt (refine' c_textof_x _ _ _ _ _ _ _ _ _ _ _ _ _ _ _ _ _ ?_ ?_ ?_ ?_ ?_ ?_ trivial ?_ ?_ ?_; rotate_right 9; (rotate_left 3; (k_asm); rotate_right 3); (rotate_left 1; (k_asm); rotate_right 1); (k_asm); (k_asm); (k_asm); (exact rfl); (ktr_room); (ktr_units)); intro eX gX hX tkX fX RX UX; (try dsimp only))) | ((k_here; (with_reducible show wpAny _ _ (call (Value.ref 143) [Value.int _ _]) _ _ _); k_dflt (refine' c_sizeR ?_ ?_ ?_ ?_ ?_ ?_ ?_ ?_ ?_ ?_ ?_ ?_; rotate_right 12; (rotate_left 3; (k_asm); rotate_right 3); (rotate_left 5; (omega); rotate_right 5); (rotate_left 5; (omega); rotate_right 5); (rotate_left 1; (k_asm); rotate_right 1); (k_asm); (k_asm); (k_asm); (exact rfl); (ktr_room); (ktr_units)); (focus ((intro hP tD hD tkD fD nD; (try dsimp only)))); (rotate_left 1; (focus ((intro hP eX gX hX tkX fX RX UX; (try dsimp only)))); rotate_right 1))) | ((k_here; (with_reducible show wpAny _ _ (call (Value.ref 143) [Value.str _ _]) _ _ _); k_dflt (refine' c_size_x _ _ _ _ _ _ _ _ _ _ _ _ _ _ _ _ _ ?_ ?_ ?_ ?_ ?_ ?_ trivial ?_ ?_ ?_; rotate_right 9; (rotate_left 3; (k_asm); rotate_right 3); (rotate_left 1; (k_asm); rotate_right 1); (k_asm); (k_asm); (k_asm); (exact rfl); (ktr_room); (ktr_units)); intro eX gX hX tkX fX RX UX; (try dsimp only))) | ((k_here; (with_reducible show wpAny _ _ (call (Value.ref 150) [Value.int _ _]) _ _ _); k_dflt (refine' c_placeR ?_ ?_ ?_ ?_ ?_ ?_ ?_ ?_ ?_ ?_ ?_ ?_; rotate_right 12; (rotate_left 3; (k_asm); rotate_right 3); (rotate_left 5; (omega); rotate_right 5); (rotate_left 5; (omega); rotate_right 5); (rotate_left 1; (k_asm); rotate_right 1); (k_asm); (k_asm); (k_asm); (exact rfl); (ktr_room); (ktr_units)); (focus ((intro hP tD hD tkD fD nD; (try dsimp only)))); (rotate_left 1; (focus ((intro hP eX gX hX tkX fX RX UX; (try dsimp only)))); rotate_right 1))) | ((k_here; (with_reducible show wpAny _ _ (call (Value.ref 150) [Value.str _ _]) _ _ _); k_dflt (refine' c_place_x _ _ _ _ _ _ _ _ _ _ _ _ _ _ _ _ _ ?_ ?_ ?_ ?_ ?_ ?_ trivial ?_ ?_ ?_; rotate_right 9; (rotate_left 3; (k_asm); rotate_right 3); (rotate_left 1; (k_asm); rotate_right 1); (k_asm); (k_asm); (k_asm); (exact rfl); (ktr_room); (ktr_units)); intro eX gX hX tkX fX RX UX; (try dsimp only))))); (k_with "call ref" => (first | ((k_here; (with_reducible show wpAny _ _ (call (Value.ref 80) [_]) _ _ _); k_dflt (refine' c_figures _ _ _ _ _ _ _ _ _ _ _ _ _ _ _ _ _ ?_ ?_ ?_ ?_ ?_ ?_ ⟨?_, ?_⟩ ?_ ?_ ?_; rotate_right 11; (rotate_left 3; (k_asm); rotate_right 3); (rotate_left 1; (k_asm); rotate_right 1); (k_asm); (k_asm); (k_asm); (exact rfl); (focus (((first | omega | ((simp only [gd0]; omega)) | ((split <;> omega)))); done)); (focus (((first | omega | ((simp only [gd0]; omega)) | ((split <;> omega)))); done)); (ktr_room); (ktr_units)); intro tD hD tkD fD nD; (try dsimp only))) | ((k_here; (with_reducible show wpAny _ _ (call (Value.ref 220) [_, _]) _ _ _); k_dflt (refine' c_led _ _ _ _ _ _ _ _ _ _ _ _ _ _ _ _ _ ?_ ?_ ?_ ?_ ?_ ?_ ⟨?_, ?_⟩ ?_ ?_ ?_; rotate_right 11; (rotate_left 3; (k_asm); rotate_right 3); (rotate_left 1; (k_asm); rotate_right 1); (k_asm); (k_asm); (k_asm); (exact rfl); (omega); (omega); (ktr_room); (ktr_units)); intro tD hD tkD fD nD; (try dsimp only))))); (k_with "binaryOp Add str str" => ((fail_if_success (fail_if_success (have : True := gdT15))); ((k_here; (with_reducible show wpAny _ _ (binaryOp Operator.Add (Value.str _ _) (Value.str _ _)) _ _ _); (refine SB.add (hsz := add_fits (by first | exact Nat.le_of_ble_eq_true rfl | exact Nat.le_trans (by assumption) (by decide) | omega) (by first | exact Nat.le_of_ble_eq_true rfl | exact Nat.le_trans (by assumption) (by decide) | omega)) ?_); intro _ _)))); (k_with "getAttr ref" => ((fail_if_success (fail_if_success (have : True := gdT15))); ((k_here; k_dflt (refine' get_own ?_ ?_ ?_ ?_ ?_ ?_ ?_ ?_ ?_ ?_; rotate_right 10; (k_asm); (k_asm); (focus ((k_inst); done)); (focus ((k_is); done)); (focus ((k_is); done)); (focus ((k_is); done)); (focus ((k_is); done)); (assumption); (focus ((k_handed); done)); k_whole))))); trivial
theorem c_str {w : World} {mean : ExcName → Option Value} {mg mb : Str → Option Value} {news : List (Addr × Obj)} {wd d la : Addr} {es : List DictEntry} {cap cc : Nat} {n : Int}  {tb t : Tok} : Ct w mean mg mb 281 40 ((wd, W.instObj 372 d) :: (d, dictOf es cap) :: news) (getL "digits" es = some (some (.int 6 tb)) ∧ (la, W.listOf #[.int n t] cc) ∈ news ∧ -40000 ≤ n ∧ n ≤ 40000) [.ref wd, .ref la] (RetO w ((wd, W.instObj 372 d) :: (d, dictOf es cap) :: news) (.val (fun t => .str (St ((if n < 0 then 45 else 32) :: inb 10 n.natAbs)) t))) := by
  refine shed ?_ fun _ n h => ?_
  focus (
  intro dp un gd cn cs a ccd cl outer A₀ base h₀ L m s Q E B F X N T hk hpre hd hu hret
  first | (refine and4 hpre ?_; clear hpre; intro hdig hm hn1 hn2) | obtain ⟨hdig, hm, hn1, hn2⟩ := hpre
  have hlen := inb_len 10 (if n < 0 then -n else n).toNat
  replace N := news_cons N (tl2 hm)
  have hv : True → _ := fun _ => hret
  clear hret
  dsimp only [RetV, RetO] at hv
  k_extra "enter"
  k_steps
  all_goals (try simp only [gd0] at *)
  all_goals first
    | (refine end_str hv (True.intro) ?_ (by k_asm) (by k_asm) (fun p hp => by first | exact hp | exact .tail _ hp | exact tl2 hp | exact tl3 hp | exact tl4 hp | exact List.mem_append_left _ hp | exact List.mem_append_left _ (.tail _ hp)); (first | exact str_neg (by assumption) | exact str_pos (by assumption)))
    | (refine end_int hv (True.intro) ?_ (by k_asm) (by k_asm) (fun p hp => by first | exact hp | exact .tail _ hp | exact tl2 hp | exact tl3 hp | exact tl4 hp | exact List.mem_append_left _ hp | exact List.mem_append_left _ (.tail _ hp)); (first | exact str_neg (by assumption) | exact str_pos (by assumption)))
    | (exfalso; omega)
    | (exfalso; simp_all; done)
  )
  simpa using pick n 5 h
theorem c_xlate {w : World} {mean : ExcName → Option Value} {mg mb : Str → Option Value} {news : List (Addr × Obj)} {la : Addr} {cc : Nat} {x y : Str}  {t u : Tok} {wv : Value} : Ct w mean mg mb 354 40 (news) ((la, W.listOf #[.str x t, .str y u] cc) ∈ news ∧ x.length ≤ 100 ∧ y.length ≤ 100) [wv, .ref la] (RetO w news (.val (fun t => .str (St (ledAll y (cd x))) t))) := by
  refine shed ?_ fun _ n h => ?_
  focus (
  intro dp un gd cn cs a ccd cl outer A₀ base h₀ L m s Q E B F X N T hk hpre hd hu hret
  first | (refine and3 hpre ?_; clear hpre; intro hm hx hy) | obtain ⟨hm, hx, hy⟩ := hpre
  replace N := news_cons N hm
  have hv : True → _ := fun _ => hret
  clear hret
  dsimp only [RetV, RetO] at hv
  k_extra "enter"
  k_steps
  all_goals first
    | (refine end_str hv (True.intro) ?_ (by k_asm) (by k_asm) (fun p hp => by first | exact hp | exact .tail _ hp | exact tl2 hp | exact tl3 hp | exact tl4 hp | exact List.mem_append_left _ hp | exact List.mem_append_left _ (.tail _ hp)); (rfl))
    | (refine end_int hv (True.intro) ?_ (by k_asm) (by k_asm) (fun p hp => by first | exact hp | exact .tail _ hp | exact tl2 hp | exact tl3 hp | exact tl4 hp | exact List.mem_append_left _ hp | exact List.mem_append_left _ (.tail _ hp)); (rfl))
    | (exfalso; omega)
    | (exfalso; simp_all; done)
  )
  simpa using pick n 5 h
theorem c_hex_tm {w : World} {mean : ExcName → Option Value} {mg mb : Str → Option Value} {news : List (Addr × Obj)} {wd d la : Addr} {es : List DictEntry} {cap cc : Nat}  {x : Str} {t : Tok} : Ct w mean mg mb 309 40 ((wd, W.instObj 372 d) :: (d, dictOf es cap) :: news) ((la, W.listOf #[.str x t] cc) ∈ news) [.ref wd, .ref la] (RetO w ((wd, W.instObj 372 d) :: (d, dictOf es cap) :: news) (.err "TM")) := by
  refine shed ?_ fun _ n h => ?_
  focus (
  intro dp un gd cn cs a ccd cl outer A₀ base h₀ L m s Q E B F X N T hk hpre hd hu hret
  replace N := news_cons N (tl2 hpre)
  have hx : True → _ := fun _ => hret
  clear hret
  dsimp only [RetX, RetO] at hx
  k_extra "enter"
  k_steps
  all_goals first
    | exact hx (True.intro) _ _ _ _ (by assumption) (flies_sub (by assumption) (fun p hp => by first | exact hp | exact .tail _ hp | exact tl2 hp | exact tl3 hp | exact tl4 hp | exact List.mem_append_left _ hp | exact List.mem_append_left _ (.tail _ hp))) (by assumption)
    | (exfalso; omega)
    | (exfalso; simp_all; done)
  )
  simpa using pick n 5 h
end Mine
end
section
open PySem.Spec
namespace Mine
noncomputable abbrev flag (n : Int) (k : Int) : Prop := Builtin.bitAnd n k ≠ 0
noncomputable def esL (n : Int) (c : Nat) : List Nat :=
  if flag n 2 ∧ blank c = true then [] else if flag n 64 ∧ (c = 91 ∨ c = 93) then [if c = 91 then 40 else 41] else [if flag n 32 then upc c else c]
theorem occ_bl (c : Nat) : occ (Str.ofString " \t") (St [c]) = !blank c := by
  rw [occ_ch, show cd (Str.ofString " \t") = [32, 9] from rfl]
  simp [blank, Bool.beq_eq_decide_eq]
theorem occ_br (c : Nat) : occ (Str.ofString "[]") (St [c]) = !decide (c = 91 ∨ c = 93) := by
  rw [occ_ch, show cd (Str.ofString "[]") = [91, 93] from rfl]
  simp
theorem ch_eq (c d : Nat) : ((St [c] : Str) == St [d]) = decide (c = d) := by
  by_cases h : c = d
  · subst h; simp
  · rw [decide_eq_false h]
    cases hc : ((St [c] : Str) == St [d]) with
    | false => rfl
    | true =>
      exfalso
      have : St [c] = St [d] := by simpa using hc
      have := congrArg (fun y : Str => y.cps.toList) this
      simp [St] at this
      exact h this
noncomputable abbrev NBl (n : Int) (c : Nat) : Prop := Builtin.bitAnd n 2 = 0 ∨ occ (Str.ofString " \t") (St [c]) = true
noncomputable abbrev NBr (n : Int) (c : Nat) : Prop := Builtin.bitAnd n 64 = 0 ∨ occ (Str.ofString "[]") (St [c]) = true
theorem not_bl {n : Int} {c : Nat} (h : NBl n c) : ¬ (flag n 2 ∧ blank c = true) := by
  rintro ⟨h1, h2⟩
  rcases h with h | h
  · exact h1 h
  · rw [occ_bl, h2] at h; cases h
theorem not_br {n : Int} {c : Nat} (h : NBr n c) : ¬ (flag n 64 ∧ (c = 91 ∨ c = 93)) := by
  rintro ⟨h1, h2⟩
  rcases h with h | h
  · exact h1 h
  · rw [occ_br, decide_eq_true h2] at h; cases h
theorem es_blank {n : Int} {c : Nat} (h1 : flag n 2) (h2 : occ (Str.ofString " \t") (St [c]) = false) : Str.ofString "" = St (esL n c) := by
  rw [occ_bl] at h2
  rw [esL, if_pos ⟨h1, by simpa using h2⟩]
  rfl
theorem es_open {n : Int} {c : Nat} (h : NBl n c) (h1 : flag n 64) (h2 : occ (Str.ofString "[]") (St [c]) = false) (h3 : (St [c] == Str.ofString "[") = true) : Str.ofString "(" = St (esL n c) := by
  have e : (St [c] == Str.ofString "[") = decide (c = 91) := ch_eq c 91
  rw [e] at h3
  have hc : c = 91 := by simpa using h3
  rw [esL, if_neg (not_bl h), if_pos ⟨h1, .inl hc⟩, if_pos hc]
  rfl
theorem es_close {n : Int} {c : Nat} (h : NBl n c) (h1 : flag n 64) (h2 : occ (Str.ofString "[]") (St [c]) = false) (h3 : (St [c] == Str.ofString "[") = false) : Str.ofString ")" = St (esL n c) := by
  have e : (St [c] == Str.ofString "[") = decide (c = 91) := ch_eq c 91
  rw [e] at h3
  rw [occ_br] at h2
  have hc : c ≠ 91 := by simpa using h3
  have hd : c = 91 ∨ c = 93 := .inr (by simpa [hc] using h2)
  rw [esL, if_neg (not_bl h), if_pos ⟨h1, hd⟩, if_neg hc]
  rfl
theorem es_up {n : Int} {c : Nat} (h : NBl n c) (h2 : NBr n c) (h3 : flag n 32) : St [upc c] = St (esL n c) := by
  rw [esL, if_neg (not_bl h), if_neg (not_br h2), if_pos h3]
theorem es_same {n : Int} {c : Nat} (h : NBl n c) (h2 : NBr n c) (h3 : Builtin.bitAnd n 32 = 0) : St [c] = St (esL n c) := by
  rw [esL, if_neg (not_bl h), if_neg (not_br h2), if_neg (fun q => q h3)]
end Mine
end
section
namespace Mine
theorem wd_T16_1 : True := by (k_with "storeName" => (k_here; (first | ((with_reducible refine' gGq GI.p ?_ ?_ ?_ ?_; rotate_right 4)) | ((with_reducible refine' gGq GI.r ?_ ?_ ?_ ?_; rotate_right 4))); k_dflt ((rotate_left 2; (kernel_rfl!); rotate_right 2); (k_asm); (k_asm); k_whole; intro _ _ _; (try k_sweep)))); trivial
theorem wd_T16_2 : True := by (k_with "call ref" => (first | ((k_here; (with_reducible show wpAny _ _ (call (Value.ref 185) [_]) _ _ _); k_dflt (refine' c_great _ _ _ _ _ _ _ _ _ _ _ _ _ _ _ _ _ ?_ ?_ ?_ ?_ ?_ ?_ ?_ ?_ ?_ ?_; rotate_right 10; (rotate_left 3; (k_asm); rotate_right 3); (rotate_left 1; (k_asm); rotate_right 1); (k_asm); (k_asm); (k_asm); (exact rfl); (assumption); (ktr_room); (ktr_units)); intro tD hD tkD fD nD; (try dsimp only))))); trivial
theorem c_esign {w : World} {mean : ExcName → Option Value} {mg mb : Str → Option Value} {news : List (Addr × Obj)} {c : Nat} {n : Int} {t u : Tok} : Ct w mean mg mb 206 30 (news) (c ≤ 255 ∧ Builtin.bitAnd n 1 = 0 ∧ Builtin.bitAnd n 4 = 0) [.str (St [c]) t, .int n u] (RetO w news (.val (fun t => .str (St (esL n c)) t))) := by
  refine shed ?_ fun _ n h => ?_
  focus (
  intro dp un gd cn cs a ccd cl outer A₀ base h₀ L m s Q E B F X N T hk hpre hd hu hret
  first | (refine and3 hpre ?_; clear hpre; intro hc hn0 hn1) | obtain ⟨hc, hn0, hn1⟩ := hpre
  have hv : True → _ := fun _ => hret
  clear hret
  dsimp only [RetV, RetO] at hv
  k_extra "enter"
  k_steps
  all_goals first
    | (refine end_str hv (True.intro) ?_ (by k_asm) (by k_asm) (fun p hp => by first | exact hp | exact .tail _ hp | exact tl2 hp | exact tl3 hp | exact tl4 hp | exact List.mem_append_left _ hp | exact List.mem_append_left _ (.tail _ hp)); (first | with_reducible exact es_blank (by assumption) (by assumption) | with_reducible exact es_open (by first | exact .inl (by assumption) | exact .inr (by assumption)) (by assumption) (by assumption) (by assumption) | with_reducible exact es_close (by first | exact .inl (by assumption) | exact .inr (by assumption)) (by assumption) (by assumption) (by assumption) | with_reducible exact es_up (by first | exact .inl (by assumption) | exact .inr (by assumption)) (by first | exact .inl (by assumption) | exact .inr (by assumption)) (by assumption) | with_reducible exact es_same (by first | exact .inl (by assumption) | exact .inr (by assumption)) (by first | exact .inl (by assumption) | exact .inr (by assumption)) (by assumption)))
    | (refine end_int hv (True.intro) ?_ (by k_asm) (by k_asm) (fun p hp => by first | exact hp | exact .tail _ hp | exact tl2 hp | exact tl3 hp | exact tl4 hp | exact List.mem_append_left _ hp | exact List.mem_append_left _ (.tail _ hp)); (first | with_reducible exact es_blank (by assumption) (by assumption) | with_reducible exact es_open (by first | exact .inl (by assumption) | exact .inr (by assumption)) (by assumption) (by assumption) (by assumption) | with_reducible exact es_close (by first | exact .inl (by assumption) | exact .inr (by assumption)) (by assumption) (by assumption) (by assumption) | with_reducible exact es_up (by first | exact .inl (by assumption) | exact .inr (by assumption)) (by first | exact .inl (by assumption) | exact .inr (by assumption)) (by assumption) | with_reducible exact es_same (by first | exact .inl (by assumption) | exact .inr (by assumption)) (by first | exact .inl (by assumption) | exact .inr (by assumption)) (by assumption)))
    | (exfalso; omega)
    | (exfalso; simp_all; done)
  )
  simpa using pick n 5 h
end Mine
end
section
open PySem.Spec
namespace Mine
noncomputable def edTold (n : Int) (F : List Nat) (c : Nat) : List Nat :=
  if (esL n c).any blank = true then (if flag n 8 ∧ F = [] then [] else if flag n 16 then (if F.getLast? = some 32 then [] else [32]) else esL n c) else esL n c
structure Ed where
  F : List Nat
  K : Nat
  q : List Nat
noncomputable def edStep (n : Int) (e : Ed) (c : Nat) : Ed :=
  if e.q ≠ [] then ⟨e.F ++ [c], e.F.length + 1, if [c] = e.q then [] else e.q⟩
  else ⟨e.F ++ edTold n e.F c, e.K, if flag n 256 ∧ (c = 34 ∨ c = 39) then [c] else []⟩
noncomputable def edRun (n : Int) (l : List Nat) : Ed := l.foldl (edStep n) ⟨[], 0, []⟩
noncomputable abbrev EdS := (List Value × Nat) × (Int × Tok) × (List Nat × Tok)
structure EdInv (n : Int) (pre : List Int) (c : EdS) : Prop where
  hs1 : StrsAre c.1.1 (ones (edRun n (pre.map Int.toNat)).F)
  hk1 : c.2.1.1 = ((edRun n (pre.map Int.toNat)).K : Int)
  hq1 : c.2.2.1 = (edRun n (pre.map Int.toNat)).q
  hl1 : c.1.1.length ≤ pre.length
  hle1 : (edRun n (pre.map Int.toNat)).K ≤ (edRun n (pre.map Int.toNat)).F.length
theorem ed_snoc (n : Int) (pre : List Int) (c : Nat) : edRun n ((pre ++ [(c : Int)]).map Int.toNat) = edStep n (edRun n (pre.map Int.toNat)) c := by
  simp [edRun]
theorem ed_init (n : Int) {t u : Tok} : EdInv n [] (([], 0), (0, t), ([], u)) := ⟨.nil, rfl, rfl, Nat.le_refl _, Nat.le_refl _⟩
theorem esL_len (n : Int) (c : Nat) : esL n c = [] ∨ ∃ d, esL n c = [d] := by
  unfold esL
  split
  · exact .inl rfl
  · split <;> exact .inr ⟨_, rfl⟩
theorem ne_empty {l : List Nat} (h : (St l != Str.ofString "") = true) : l ≠ [] := by
  rintro rfl
  exact absurd h (by decide)
theorem is_empty {l : List Nat} (h : (St l != Str.ofString "") = false) : l = [] := by
  cases l with
  | nil => rfl
  | cons a r =>
    exfalso
    have h2 : (St (a :: r) == Str.ofString "") = true := by simpa [bne] using h
    have h3 := congrArg (fun y : Str => y.cps.toList) (empty_of h2)
    simp [St] at h3
section
variable {n : Int} {pre : List Int} {c ver ver' : Nat} {ys : List Value} {K : Int} {q : List Nat} {tK tq tK' tq' t : Tok}
theorem ed_in1 (h : EdInv n pre ((ys, ver), (K, tK), (q, tq))) (hq : (St q != Str.ofString "") = true) (hs : (St [c] == St q) = true) :
    EdInv n (pre ++ [(c : Int)]) ((ys ++ [.str ⟨#[c]⟩ t], ver'), ((((ys.toArray.push (.str ⟨#[c]⟩ t)).size : Nat) : Int), tK'), ([], tq')) := by
  have hne := ne_empty hq
  have hq2 : q = (edRun n (pre.map Int.toNat)).q := h.hq1
  have hsl := strs_len h.hs1
  simp only [ones, List.length_map] at hsl
  have hs2 : [c] = q := by
    have : St [c] = St q := by simpa using hs
    have := congrArg (fun y : Str => y.cps.toList) this
    simpa [St] using this
  have e : edStep n (edRun n (pre.map Int.toNat)) c = ⟨(edRun n (pre.map Int.toNat)).F ++ [c], (edRun n (pre.map Int.toNat)).F.length + 1, []⟩ := by
    unfold edStep
    rw [if_pos (by rw [← hq2]; exact hne), if_pos (by rw [← hq2]; exact hs2)]
  refine ⟨?_, ?_, ?_, ?_, ?_⟩
  · rw [ed_snoc, e]; exact strs_ones_snoc h.hs1
  · rw [ed_snoc, e]; simp [hsl]
  · rw [ed_snoc, e]
  · have := h.hl1; simpa using this
  · rw [ed_snoc, e]; simp
theorem ed_in2 (h : EdInv n pre ((ys, ver), (K, tK), (q, tq))) (hq : (St q != Str.ofString "") = true) (hs : (St [c] == St q) = false) :
    EdInv n (pre ++ [(c : Int)]) ((ys ++ [.str ⟨#[c]⟩ t], ver'), ((((ys.toArray.push (.str ⟨#[c]⟩ t)).size : Nat) : Int), tK'), (q, tq')) := by
  have hne := ne_empty hq
  have hq2 : q = (edRun n (pre.map Int.toNat)).q := h.hq1
  have hsl := strs_len h.hs1
  simp only [ones, List.length_map] at hsl
  have hs2 : ¬ [c] = q := by
    rintro rfl
    simp at hs
  have e : edStep n (edRun n (pre.map Int.toNat)) c = ⟨(edRun n (pre.map Int.toNat)).F ++ [c], (edRun n (pre.map Int.toNat)).F.length + 1, (edRun n (pre.map Int.toNat)).q⟩ := by
    unfold edStep
    rw [if_pos (by rw [← hq2]; exact hne), if_neg (by rw [← hq2]; exact hs2)]
  refine ⟨?_, ?_, ?_, ?_, ?_⟩
  · rw [ed_snoc, e]; exact strs_ones_snoc h.hs1
  · rw [ed_snoc, e]; simp [hsl]
  · rw [ed_snoc, e]; exact hq2
  · have := h.hl1; simpa using this
  · rw [ed_snoc, e]; simp
noncomputable abbrev QIs (n : Int) (c : Nat) (q' : List Nat) : Prop := q' = if flag n 256 ∧ (c = 34 ∨ c = 39) then [c] else []
theorem occ_qt (c : Nat) : occ (Str.ofString "\"'") (St [c]) = !decide (c = 34 ∨ c = 39) := by
  rw [occ_ch, show cd (Str.ofString "\"'") = [34, 39] from rfl]
  simp
theorem q_yes (h1 : flag n 256) (h2 : occ (Str.ofString "\"'") (St [c]) = false) : QIs n c [c] := by
  rw [occ_qt] at h2
  rw [Bool.not_eq_false'] at h2
  rw [QIs, if_pos ⟨h1, of_decide_eq_true h2⟩]
theorem q_no (hq : (St q != Str.ofString "") = false) (h : Builtin.bitAnd n 256 = 0 ∨ occ (Str.ofString "\"'") (St [c]) = true) : QIs n c q := by
  rw [QIs, is_empty hq, if_neg]
  rintro ⟨h1, h2⟩
  rcases h with h | h
  · exact h1 h
  · rw [occ_qt, decide_eq_true h2] at h; cases h
noncomputable abbrev ToldIs (n : Int) (pre : List Int) (c : Nat) (T : List Nat) : Prop := edTold n (edRun n (pre.map Int.toNat)).F c = T
theorem ed_out0 {q' : List Nat} (h : EdInv n pre ((ys, ver), (K, tK), (q, tq))) (hq : (St q != Str.ofString "") = false) (hQ : QIs n c q') (hT : ToldIs n pre c []) :
    EdInv n (pre ++ [(c : Int)]) ((ys, ver'), (K, tK'), (q', tq')) := by
  have hq2 : q = (edRun n (pre.map Int.toNat)).q := h.hq1
  have e : edStep n (edRun n (pre.map Int.toNat)) c = ⟨(edRun n (pre.map Int.toNat)).F ++ [], (edRun n (pre.map Int.toNat)).K, q'⟩ := by
    unfold edStep
    rw [if_neg (by rw [← hq2, is_empty hq]; exact fun h => h rfl), hQ]
    congr 2
  rw [List.append_nil] at e
  refine ⟨?_, ?_, ?_, ?_, ?_⟩
  · rw [ed_snoc, e]; exact h.hs1
  · rw [ed_snoc, e]; exact h.hk1
  · rw [ed_snoc, e]
  · have := h.hl1; simp at this ⊢; omega
  · rw [ed_snoc, e]; exact h.hle1
theorem ed_out1 {q' : List Nat} {y : Str} {d : Nat} (h : EdInv n pre ((ys, ver), (K, tK), (q, tq))) (hq : (St q != Str.ofString "") = false) (hQ : QIs n c q') (hT : ToldIs n pre c [d]) (hy : y = St [d]) :
    EdInv n (pre ++ [(c : Int)]) ((ys ++ [.str y t], ver'), (K, tK'), (q', tq')) := by
  have hq2 : q = (edRun n (pre.map Int.toNat)).q := h.hq1
  have e : edStep n (edRun n (pre.map Int.toNat)) c = ⟨(edRun n (pre.map Int.toNat)).F ++ [d], (edRun n (pre.map Int.toNat)).K, q'⟩ := by
    unfold edStep
    rw [if_neg (by rw [← hq2, is_empty hq]; exact fun h => h rfl), hQ, hT]
  subst hy
  refine ⟨?_, ?_, ?_, ?_, ?_⟩
  · rw [ed_snoc, e]; exact strs_ones_snoc h.hs1
  · rw [ed_snoc, e]; exact h.hk1
  · rw [ed_snoc, e]
  · have := h.hl1; simp at this ⊢; omega
  · rw [ed_snoc, e]; have := h.hle1; simp; omega
theorem told_any (ht : (St (esL n c) != Str.ofString "") = true) : ∃ d, esL n c = [d] := (esL_len n c).resolve_left (ne_empty ht)
theorem any_no (ht : (St (esL n c) != Str.ofString "") = true) (ho : occ (Str.ofString " \t") (St (esL n c)) = true) : ¬ (esL n c).any blank = true := by
  obtain ⟨d, e⟩ := told_any ht
  rw [e] at ho ⊢
  rw [occ_bl] at ho
  simpa using ho
theorem any_yes (ht : (St (esL n c) != Str.ofString "") = true) (ho : occ (Str.ofString " \t") (St (esL n c)) = false) : (esL n c).any blank = true := by
  obtain ⟨d, e⟩ := told_any ht
  rw [e] at ho ⊢
  rw [occ_bl] at ho
  simpa using ho
theorem t_none (ht : (St (esL n c) != Str.ofString "") = false) : ToldIs n pre c [] := by
  have e := is_empty ht
  simp only [ToldIs, edTold, e, List.any_nil, Bool.false_eq_true, if_false]
theorem t_same (ht : (St (esL n c) != Str.ofString "") = true) (ho : occ (Str.ofString " \t") (St (esL n c)) = true) : ToldIs n pre c (esL n c) := by
  rw [ToldIs, edTold, if_neg (any_no ht ho)]
noncomputable abbrev N8 (n : Int) (ys : List Value) : Prop := Builtin.bitAnd n 8 = 0 ∨ ¬ ((ys.toArray.size : Nat) : Int) = 0
theorem sz_nil (h : EdInv n pre ((ys, ver), (K, tK), (q, tq))) : ((ys.toArray.size : Nat) : Int) = 0 ↔ (edRun n (pre.map Int.toNat)).F = [] := by
  have hsl := strs_len h.hs1
  simp only [ones, List.length_map] at hsl
  rw [List.size_toArray, hsl]
  constructor
  · intro h; exact List.length_eq_zero_iff.mp (by lia)
  · intro h; rw [h]; rfl
theorem t_first (h : EdInv n pre ((ys, ver), (K, tK), (q, tq))) (ht : (St (esL n c) != Str.ofString "") = true) (ho : occ (Str.ofString " \t") (St (esL n c)) = false) (h8 : flag n 8) (hz : ((ys.toArray.size : Nat) : Int) = 0) : ToldIs n pre c [] := by
  rw [ToldIs, edTold, if_pos (any_yes ht ho), if_pos ⟨h8, (sz_nil h).mp hz⟩]
theorem n8_not (h : EdInv n pre ((ys, ver), (K, tK), (q, tq))) (h8 : N8 n ys) : ¬ (flag n 8 ∧ (edRun n (pre.map Int.toNat)).F = []) := by
  rintro ⟨a, b⟩
  rcases h8 with h8 | h8
  · exact a h8
  · exact h8 ((sz_nil h).mpr b)
theorem t_blank (h : EdInv n pre ((ys, ver), (K, tK), (q, tq))) (ht : (St (esL n c) != Str.ofString "") = true) (ho : occ (Str.ofString " \t") (St (esL n c)) = false) (h8 : N8 n ys) (h16 : Builtin.bitAnd n 16 = 0) : ToldIs n pre c (esL n c) := by
  rw [ToldIs, edTold, if_pos (any_yes ht ho), if_neg (n8_not h h8), if_neg (fun q => q h16)]
noncomputable abbrev lastOf (F : List Nat) : Str := (ones F).getD (-1 + ((ones F).length : Int)).toNat Str.empty
theorem last_ones {F : List Nat} (hF : F ≠ []) : lastOf F = St [F.getLast hF] := by
  have hl : 0 < F.length := List.length_pos_iff.mpr hF
  have e : (-1 + ((ones F).length : Int)).toNat = F.length - 1 := by simp only [ones, List.length_map]; omega
  rw [lastOf, e, List.getLast_eq_getElem]
  have h2 : F.length - 1 < F.length := by omega
  simp [ones, List.getD, List.getElem?_map, List.getElem?_eq_getElem h2]
theorem last_32 {F : List Nat} (hF : F ≠ []) (b : Bool) (h : (lastOf F == Str.ofString " ") = b) : (decide (F.getLast? = some 32)) = b := by
  rw [last_ones hF] at h
  have e : (St [F.getLast hF] == Str.ofString " ") = decide (F.getLast hF = 32) := ch_eq _ 32
  rw [e] at h
  rw [← h, List.getLast?_eq_some_getLast hF]
  simp
theorem pos_ne (h : EdInv n pre ((ys, ver), (K, tK), (q, tq))) (hz : 0 < ((ys.toArray.size : Nat) : Int)) : (edRun n (pre.map Int.toNat)).F ≠ [] := by
  intro hF
  have := (sz_nil h).mpr hF
  omega
theorem t_drop (h : EdInv n pre ((ys, ver), (K, tK), (q, tq))) (ht : (St (esL n c) != Str.ofString "") = true) (ho : occ (Str.ofString " \t") (St (esL n c)) = false) (h8 : N8 n ys) (h16 : flag n 16) (hz : 0 < ((ys.toArray.size : Nat) : Int))
    (hl : (lastOf (edRun n (pre.map Int.toNat)).F == Str.ofString " ") = true) : ToldIs n pre c [] := by
  have := last_32 (pos_ne h hz) true hl
  rw [ToldIs, edTold, if_pos (any_yes ht ho), if_neg (n8_not h h8), if_pos h16, if_pos (by simpa using this)]
theorem t_put1 (h : EdInv n pre ((ys, ver), (K, tK), (q, tq))) (ht : (St (esL n c) != Str.ofString "") = true) (ho : occ (Str.ofString " \t") (St (esL n c)) = false) (h8 : N8 n ys) (h16 : flag n 16) (hz : ¬ 0 < ((ys.toArray.size : Nat) : Int)) : ToldIs n pre c [32] := by
  have hF : (edRun n (pre.map Int.toNat)).F = [] := (sz_nil h).mp (by omega)
  rw [ToldIs, edTold, if_pos (any_yes ht ho), if_neg (n8_not h h8), if_pos h16, if_neg (by rw [hF]; simp)]
theorem t_put2 (h : EdInv n pre ((ys, ver), (K, tK), (q, tq))) (ht : (St (esL n c) != Str.ofString "") = true) (ho : occ (Str.ofString " \t") (St (esL n c)) = false) (h8 : N8 n ys) (h16 : flag n 16) (hz : 0 < ((ys.toArray.size : Nat) : Int))
    (hl : (lastOf (edRun n (pre.map Int.toNat)).F == Str.ofString " ") = false) : ToldIs n pre c [32] := by
  have := last_32 (pos_ne h hz) false hl
  rw [ToldIs, edTold, if_pos (any_yes ht ho), if_neg (n8_not h h8), if_pos h16, if_neg (by simpa using this)]
theorem ed_outS {q' : List Nat} (h : EdInv n pre ((ys, ver), (K, tK), (q, tq))) (hq : (St q != Str.ofString "") = false) (hQ : QIs n c q') (ht : (St (esL n c) != Str.ofString "") = true) (hT : ToldIs n pre c (esL n c)) :
    EdInv n (pre ++ [(c : Int)]) ((ys ++ [.str (St (esL n c)) t], ver'), (K, tK'), (q', tq')) := by
  obtain ⟨d, e⟩ := told_any ht
  rw [e] at hT ⊢
  exact ed_out1 h hq hQ hT rfl
theorem last_fit {F : List Nat} (h : StrsAre ys (ones F)) (hz : 0 < ((ys.toArray.size : Nat) : Int)) : -((ones F).length : Int) ≤ -1 := by
  have := strs_len h
  rw [List.size_toArray] at hz
  omega
end
theorem slice_upto {vs : List Value} {k : Int} (h : 0 ≤ k) : (slicePick vs.toArray none (some k) none).toList = vs.take k.toNat := by
  obtain ⟨p, rfl⟩ := Int.eq_ofNat_of_zero_le h
  have e : sliceBounds none (some (p : Int)) none vs.toArray.size = (((0 : Nat) : Int), ((min p vs.toArray.size : Nat) : Int), 1) := by
    simp only [sliceBounds, Option.getD_none, show (1 : Int) > 0 by decide, if_true, if_neg (Int.not_lt.mpr h), mmn]
    rfl
  rw [kmk_pick_nat _ e]
  show (vs.drop 0).take (min p vs.toArray.size - 0) = _
  rw [List.drop_zero, Nat.sub_zero, List.size_toArray, kmk_take_min]
  rfl
theorem slice_from {vs : List Value} {k : Int} (h : 0 ≤ k) : (slicePick vs.toArray (some k) none none).toList = vs.drop k.toNat := by
  obtain ⟨p, rfl⟩ := Int.eq_ofNat_of_zero_le h
  have e : sliceBounds (some (p : Int)) none none vs.toArray.size = (((min p vs.toArray.size : Nat) : Int), ((vs.toArray.size : Nat) : Int), 1) := by
    simp only [sliceBounds, Option.getD_none, show (1 : Int) > 0 by decide, if_true, if_neg (Int.not_lt.mpr h), mmn]
  rw [kmk_pick_nat _ e]
  show (vs.drop (min p vs.toArray.size)).take (vs.toArray.size - min p vs.toArray.size) = _
  rw [List.size_toArray, kmk_drop_min, List.take_of_length_le (by rw [List.length_drop]; exact Nat.sub_le_sub_left (Nat.min_le_left _ _) _)]
  rfl
theorem strs_drop {ys : List Value} {F : List Str} (h : StrsAre ys F) : ∀ k : Nat, StrsAre (ys.drop k) (F.drop k) := by
  induction h with
  | nil => intro k; simp only [List.drop_nil]; exact .nil
  | cons a b h ih =>
    intro k
    cases k with
    | zero => exact .cons a b h
    | succ k => exact ih k
theorem strs_take {ys : List Value} {F : List Str} (h : StrsAre ys F) : ∀ k : Nat, StrsAre (ys.take k) (F.take k) := by
  induction h with
  | nil => intro k; simp only [List.take_nil]; exact .nil
  | cons a b h ih =>
    intro k
    cases k with
    | zero => exact .nil
    | succ k => exact .cons a b (ih k)
theorem ones_drop {ys : List Value} {F : List Nat} {k : Nat} (h : StrsAre ys (ones F)) : StrsAre (ys.drop k) (ones (F.drop k)) := by
  rw [ones, List.map_drop]; exact strs_drop h _
theorem ones_take {ys : List Value} {F : List Nat} {k : Nat} (h : StrsAre ys (ones F)) : StrsAre (ys.take k) (ones (F.take k)) := by
  rw [ones, List.map_take]; exact strs_take h _
theorem codes_mem {x : Str} {pre post : List Int} {c : Nat} (h : KStt.codes x = pre ++ (c : Int) :: post) : c ∈ cd x := by
  have : (c : Int) ∈ KStt.codes x := by rw [h]; simp
  simp only [KStt.codes, List.mem_map] at this
  first | (refine and3 this ?_; clear this; intro d hd e) | obtain ⟨d, hd, e⟩ := this
  have : d = c := by lia
  subst this
  exact hd
theorem ed_size {n : Int} {x : Str} {pre post : List Int} {c : Int} {st : EdS} (h : EdInv n pre st) (hc : KStt.codes x = pre ++ c :: post) (hx : x.length ≤ 100) : st.1.1.toArray.size ≤ sizeLine := by
  have h1 := h.hl1
  have h3 := codes_pre hc hx
  rw [sizeLine_eq, List.size_toArray]
  omega
theorem size_push {ys : List Value} {v : Value} (h : ys.toArray.size ≤ sizeLine) : (((ys.toArray.push v).size : Nat) : Int) < 2 ^ 63 := by
  rw [sizeLine_eq] at h
  rw [Array.size_push]
  omega
theorem size_fit {ys : List Value} (h : ys.toArray.size ≤ sizeLine) : ((ys.toArray.size : Nat) : Int) < 2 ^ 63 := by
  rw [sizeLine_eq] at h
  omega
noncomputable def edOut (n : Int) (l : List Nat) : List Nat :=
  (edRun n l).F.take (edRun n l).K ++ (if flag n 128 then rstrip ((edRun n l).F.drop (edRun n l).K) else (edRun n l).F.drop (edRun n l).K)
theorem rstrip_len (l : List Nat) : (rstrip l).length ≤ l.length := by
  have h : ∀ m : List Nat, (m.dropWhile blank).length ≤ m.length := fun m => (List.dropWhile_sublist _).length_le
  have := h l.reverse
  simpa [rstrip] using this
theorem ed_full {n : Int} {x : Str} {st : EdS} (h : EdInv n (KStt.codes x) st) (hx : x.length ≤ 100) : (edRun n ((KStt.codes x).map Int.toNat)).F.length ≤ 100 ∧ st.1.1.toArray.size ≤ sizeLine := by
  have h1 := h.hl1
  have h2 := strs_len h.hs1
  rw [KStt.codes_length] at h1
  simp only [ones, List.length_map] at h2
  rw [sizeLine_eq, List.size_toArray]
  omega
theorem ed_end1 {n : Int} {x : Str} {K : Int} (hK : K = ((edRun n ((KStt.codes x).map Int.toNat)).K : Int)) (h : flag n 128) :
    St ((edRun n ((KStt.codes x).map Int.toNat)).F.take K.toNat) ++ St (rstrip (cd (St ((edRun n ((KStt.codes x).map Int.toNat)).F.drop K.toNat)))) = St (edOut n (cd x)) := by
  rw [hK, Int.toNat_natCast, codes_nat, St_app, edOut, if_pos h]
theorem ed_end2 {n : Int} {x : Str} {K : Int} (hK : K = ((edRun n ((KStt.codes x).map Int.toNat)).K : Int)) (h : Builtin.bitAnd n 128 = 0) :
    St ((edRun n ((KStt.codes x).map Int.toNat)).F.take K.toNat) ++ St ((edRun n ((KStt.codes x).map Int.toNat)).F.drop K.toNat) = St (edOut n (cd x)) := by
  rw [hK, Int.toNat_natCast, codes_nat, St_app, edOut, if_neg (fun q => q h)]
theorem take_len {F : List Nat} {k : Nat} (h : F.length ≤ 100) : (St (F.take k)).length ≤ 100 := by rw [St_len, List.length_take]; omega
theorem drop_len {F : List Nat} {k : Nat} (h : F.length ≤ 100) : (St (F.drop k)).length ≤ 100 := by rw [St_len, List.length_drop]; omega
theorem rdrop_len {F : List Nat} {k : Nat} (h : F.length ≤ 100) : (St (rstrip (cd (St (F.drop k))))).length ≤ 100 := by
  have := rstrip_len (F.drop k)
  rw [List.length_drop] at this
  rw [St_len]
  show (rstrip (F.drop k)).length ≤ 100
  omega
end Mine
end
section
open PySem.Spec
namespace Mine
noncomputable def EdMid (g : Heap) (L : Addr) (m : Str → Option Value) (news : List (Addr × Obj)) (s : Shared) (y : Str) (C : List Nat → Prop) (s' : Shared) : Prop :=
  ∃ h tk q t, s' = { s with heap := h, toks := tk } ∧ Fr g L h (fun z => if z = y then some (.str (St q) t) else m z) ∧ News g L h news ∧ C q
theorem EdMid.put {g h : Heap} {L : Addr} {m : Str → Option Value} {news : List (Addr × Obj)} {s : Shared} {y : Str} {C : List Nat → Prop} {tk : Nat} {t : Tok} (q : List Nat) (F : Fr g L h (fun z => if z = y then some (.str (St q) t) else m z)) (N : News g L h news) (hc : C q) :
    EdMid g L m news s y C { s with heap := h, toks := tk } := ⟨h, tk, q, t, rfl, F, N, hc⟩
theorem EdMid.keep {g h : Heap} {L : Addr} {m : Str → Option Value} {news : List (Addr × Obj)} {s : Shared} {y : Str} {C : List Nat → Prop} {tk : Nat} {t : Tok} (q : List Nat) (F : Fr g L h m) (e : m y = some (.str (St q) t)) (N : News g L h news) (hc : C q) :
    EdMid g L m news s y C { s with heap := h, toks := tk } := by
  refine ⟨h, tk, q, t, rfl, ?_, N, hc⟩
  have : (fun z => if z = y then some (.str (St q) t) else m z) = m := by
    funext z
    split
    · rename_i hz
      rw [hz, e]
    · rfl
  rw [this]
  exact F
section
variable {M : Model} {A : Around} {E : Value → Shared → Prop} {s : Shared} {env : Env} {st : Stmt} {rest : List Stmt} {Q : Flow → Shared → Prop}
theorem execs_midF {g : Heap} {L : Addr} {m : Str → Option Value} {news : List (Addr × Obj)} (_F : Fr g L s.heap m) (_N : News g L s.heap news) (y : Str) (C : List Nat → Prop)
    (h1 : wpAny M A (exec st env) (fun f s' => match f with | .next => EdMid g L m news s y C s' | f => Q f s') E s)
    (h2 : ∀ h tk q t, Fr g L h (fun z => if z = y then some (.str (St q) t) else m z) → News g L h news → C q → wpAny M A (execs rest env) Q E { s with heap := h, toks := tk }) :
    wpAny M A (execs (st :: rest) env) Q E s := by
  refine wpAny_execs_cons (wpAny_mono h1 (fun f s' q => ?_) fun _ _ e => e)
  cases f with
  | next =>
    obtain ⟨h, tk, q, t, rfl, F, N, hc⟩ := q
    exact h2 h tk q t F N hc
  | cont => exact q
  | brk => exact q
  | ret v => exact q
end
section
variable {n : Int} {pre : List Int} {c ver ver' : Nat} {ys : List Value} {K : Int} {q q' T : List Nat} {tK tq tK' tq' t : Tok}
noncomputable abbrev ToldC (n : Int) (pre : List Int) (c : Nat) (T : List Nat) : Prop := ToldIs n pre c T ∧ T.length ≤ 1
theorem esL_le (n : Int) (c : Nat) : (esL n c).length ≤ 1 := by
  rcases esL_len n c with e | ⟨d, e⟩ <;> rw [e] <;> simp
theorem t_noneS (ht : (St (esL n c) != Str.ofString "") = false) : ToldIs n pre c (esL n c) := by
  have e := is_empty ht
  rw [e]
  exact t_none ht
theorem ed_T1 (h : EdInv n pre ((ys, ver), (K, tK), (q, tq))) (hq : (St q != Str.ofString "") = false) (hQ : QIs n c q') (hC : ToldC n pre c T) (ht : (St T != Str.ofString "") = true) :
    EdInv n (pre ++ [(c : Int)]) ((ys ++ [.str (St T) t], ver'), (K, tK'), (q', tq')) := by
  first | (refine and2 hC ?_; clear hC; intro hT hl) | obtain ⟨hT, hl⟩ := hC
  have hne := ne_empty ht
  match T, hl, hne with
  | [d], _, _ => exact ed_out1 h hq hQ hT rfl
theorem ed_T0 (h : EdInv n pre ((ys, ver), (K, tK), (q, tq))) (hq : (St q != Str.ofString "") = false) (hQ : QIs n c q') (hC : ToldC n pre c T) (ht : (St T != Str.ofString "") = false) :
    EdInv n (pre ++ [(c : Int)]) ((ys, ver'), (K, tK'), (q', tq')) := by
  first | (refine and2 hC ?_; clear hC; intro hT hl) | obtain ⟨hT, hl⟩ := hC
  rw [is_empty ht] at hT
  exact ed_out0 h hq hQ hT
end
end Mine
end
section
namespace Mine
theorem OT17.gdT17 : True := trivial
open OT17
theorem wd_T17_1 : True := by (k_with "pyIter str" => ((fail_if_success (fail_if_success (have : True := gdT17))); ((refine Stop.go ?_)))); (k_with "exec For Name Name cons nil" => ((fail_if_success (fail_if_success (have : True := gdT17))); ((k_here; (rename Fr _ _ _ _ => lF'); (with_unfolding_all refine' For_invVF lF' ?_ ?_ ?_; rotate_right 3; (exact rfl); (exact rfl); k_whole))))); (k_with "call builtin:list.append" => ((fail_if_success (fail_if_success (have : True := gdT17))); ((k_here; (with_reducible show wpAny _ _ (call (Value.builtin _) [Value.ref _, _]) _ _ _); k_dflt (refine' append_K ?_ ?_ ?_ ?_ ?_; rotate_right 5; (k_asm); (k_asm); (focus ((exact Upd.head (by assumption)); done)); (rotate_left 1; (assumption); rotate_right 1); k_whole); intro h' F' N'; (try k_sweep))))); (k_with "newList" => ((fail_if_success (fail_if_success (have : True := gdT17))); ((k_here; k_dflt (refine' newList_K ?_ ?_ ?_; rotate_right 3; (k_asm); (k_asm); k_whole); intro l' h' F' N' l1)))); (k_with "subscriptTail Name Slice ref ref" => ((fail_if_success (fail_if_success (have : True := gdT17))); ((k_here; (with_reducible show wpAny _ _ (subscriptTail _ (PySem.Expr.Slice _ _ none _) (Value.ref _) (Value.ref _)) _ _ _); k_dflt (refine' kmk_slice_lit ?_ ?_ ?_ ?_ ?_ ?_ ?_ ?_ ?_ ?_; rotate_right 10; (k_asm); (k_asm); (focus ((kmk_list); done)); (focus ((kmk_part); done)); (focus ((kmk_part); done)); (focus ((first | exact slice_upto (by assumption) | exact slice_from (by assumption)); done)); (rotate_left 1; (with_unfolding_all rfl); rotate_right 1); (rotate_left 1; (focus ((kmk_pure); done)); rotate_right 1); (rotate_left 1; (assumption); rotate_right 1)); intro D' h' F' N' l1; (try k_sweep))))); (k_with "subscriptTail Name UnaryOp ref int" => ((fail_if_success (fail_if_success (have : True := gdT17))); ((k_here; (with_reducible show wpAny _ _ (subscriptTail _ _ (Value.ref _) (Value.int _ _)) _ _ _); k_dflt (refine' item_strs_negR (k := -1) ?_ ?_ ?_ ?_ ?_ ?_; rotate_right 6; (focus ((kmk_list); done)); (assumption); (decide); (focus ((exact last_fit (by assumption) (by omega)); done)); (decide)); intro _)))); (k_with "call builtin:len" => ((fail_if_success (fail_if_success (have : True := gdT17))); ((k_here; (with_reducible show wpAny _ _ (call (Value.builtin "len") [Value.ref _]) _ _ _); k_dflt (refine' len_list ?_ ?_ ?_; rotate_right 3; (focus ((kmk_list); done)); (focus ((first | exact size_fit (by assumption) | exact size_push (by assumption)); done))))))); (k_with "call builtin:str.join" => ((fail_if_success (fail_if_success (have : True := gdT17))); ((k_here; (with_reducible show wpAny _ _ (call (Value.builtin "str.join") [Value.str _ _, Value.ref _]) _ _ _); k_dflt (refine' join_ones_l (isList_of ?_ ?_) ?_ ?_ ?_; rotate_right 5; (k_asm); (focus ((k_mem); done)); (focus ((first | exact ones_take (by assumption) | exact ones_drop (by assumption)); done)); (focus ((first | exact Nat.le_trans (Nat.le_of_eq (St_len _).symm) (Nat.le_trans (by assumption) (by decide))); done))); intro tj kj)))); (k_with "binaryOp Add str str" => ((fail_if_success (fail_if_success (have : True := gdT17))); ((k_here; (with_reducible show wpAny _ _ (binaryOp Operator.Add (Value.str _ _) (Value.str _ _)) _ _ _); (refine SB.add (hsz := add_fits (by first | exact Nat.le_of_ble_eq_true rfl | exact Nat.le_trans (by assumption) (by decide) | omega) (by first | exact Nat.le_of_ble_eq_true rfl | exact Nat.le_trans (by assumption) (by decide) | omega)) ?_); intro _ _)))); (k_with "call ref" => (first | ((k_here; (with_reducible show wpAny _ _ (call (Value.ref 206) [_, _]) _ _ _); k_dflt (refine' c_esign _ _ _ _ _ _ _ _ _ _ _ _ _ _ _ _ _ ?_ ?_ ?_ ?_ ?_ ?_ ⟨?_, ?_, ?_⟩ ?_ ?_ ?_; rotate_right 12; (rotate_left 3; (k_asm); rotate_right 3); (rotate_left 1; (k_asm); rotate_right 1); (k_asm); (k_asm); (k_asm); (exact rfl); (assumption); (assumption); (assumption); (ktr_room); (ktr_units)); intro tD hD tkD fD nD; (try dsimp only))) | ((k_here; (with_reducible show wpAny _ _ (call (Value.ref 178) [_, _]) _ _ _); k_dflt (refine' c_fr _ _ _ _ _ _ _ _ _ _ _ _ _ _ _ _ _ ?_ ?_ ?_ ?_ ?_ ?_ ?_ ?_ ?_ ?_; rotate_right 10; (rotate_left 3; (k_asm); rotate_right 3); (rotate_left 1; (k_asm); rotate_right 1); (k_asm); (k_asm); (k_asm); (exact rfl); (assumption); (ktr_room); (ktr_units)); intro tD hD tkD fD nD; (try dsimp only))))); (k_with "execs cons" => ((fail_if_success (fail_if_success (have : True := gdT17))); ((k_here; (with_reducible show wpAny _ _ (execs [Stmt.If _ _ _ _, _, _, _] _) _ _ _); refine Stop.go ?_)))); (k_with "execs cons" => ((fail_if_success (fail_if_success (have : True := gdT17))); ((k_here; (with_reducible show wpAny _ _ (execs [Stmt.If _ _ _ _, _] _) _ _ _); refine Stop.go ?_)))); trivial
theorem c_edited {w : World} {mean : ExcName → Option Value} {mg mb : Str → Option Value} {news : List (Addr × Obj)} {x : Str} {n : Int} {t u : Tok} : Ct w mean mg mb 213 35 (news) (x.length ≤ 100 ∧ (∀ c ∈ cd x, c ≤ 255) ∧ Builtin.bitAnd n 1 = 0 ∧ Builtin.bitAnd n 4 = 0) [.str x t, .int n u] (RetO w news (.val (fun t => .str (St (edOut n (cd x))) t))) := by
  refine shed ?_ fun _ n h => ?_
  focus (
  intro dp un gd cn cs a ccd cl outer A₀ base h₀ L m s Q E B F X N T hk hpre hd hu hret
  first | (refine and4 hpre ?_; clear hpre; intro hx hal h1 h4) | obtain ⟨hx, hal, h1, h4⟩ := hpre
  have hv : True → _ := fun _ => hret
  clear hret
  dsimp only [RetV, RetO] at hv
  k_extra "enter"
  k_steps
  refine Stop.of ?_
  k_here
  (rename Fr _ _ _ _ => hF)
  (rename News _ _ _ _ => hN)
  replace hN := news_tail hN
  (rename ∀ p ∈ news, _ < _ => hl)
  have hlt := fun p hp => Nat.ne_of_lt (hl p hp)
  k_dflt (refine' KStt.kst_text (σ := EdS) (fun c => (_, W.listOf c.1.1.toArray c.1.2) :: news) (fun c => [(Str.ofString "kept", .int c.2.1.1 c.2.1.2), (Str.ofString "quote", .str (St c.2.2.1) c.2.2.2)]) (fun _ => True) [Str.ofString "told"] (EdInv n) (([], 0), (0, _), ([], _)) rfl hF hN trivial ?a0 (ed_init n) ?a1 ?a2)
  case a0 => kst_all
  case a1 =>
    refine pr6 ?_; intro ys ver K tK q tq pre post c t u h tk own hcodes hoff _ hP F2 N2
    dsimp only [List.cons_append] at N2 F2
    have hoff2 := fun p hp => (List.mem_append.mp hp).elim (hlt p) fun hq => hoff p hq _ (.head _)
    have hsz : ys.toArray.size ≤ sizeLine := ed_size hP hcodes hx
    have hc : c ≤ 255 := hal c (codes_mem hcodes)
    have hst := hP.hs1
    dsimp only at hst
    k_steps
    all_goals first
      | ((rename Fr _ _ _ _ => fE); (rename News _ _ _ _ => nE); (refine' kst_end ((_, ver + 1), (_, _), (_, _)) fE nE ?m1 ?m2 ?ha trivial ?hk ?hr (ed_in1 hP (by assumption) (by assumption)); (case hk => kst_all); (case m1 => (intro p hp; (try simp only [List.push_toArray]); exact List.mem_append_left own hp)); (case m2 => exact fun p hp => .tail _ (List.mem_append_right _ hp)); (case hr => (intro z h1 h2 h3; have hk' := h2 _ (.head _); have hq' := h2 _ (.tail _ (.head _)); have ht' : z ≠ Str.ofString "told" := (fun e => by subst e; exact absurd h3 (by decide)); simp [kstB, h1, hk', hq', ht'])); (case ha => rfl)))
      | ((rename Fr _ _ _ _ => fE); (rename News _ _ _ _ => nE); (refine' kst_end ((_, ver + 1), (_, _), (_, _)) fE nE ?m1 ?m2 ?ha trivial ?hk ?hr (ed_in2 hP (by assumption) (by assumption)); (case hk => kst_all); (case m1 => (intro p hp; (try simp only [List.push_toArray]); exact List.mem_append_left own hp)); (case m2 => exact fun p hp => .tail _ (List.mem_append_right _ hp)); (case hr => (intro z h1 h2 h3; have hk' := h2 _ (.head _); have hq' := h2 _ (.tail _ (.head _)); have ht' : z ≠ Str.ofString "told" := (fun e => by subst e; exact absurd h3 (by decide)); simp [kstB, h1, hk', hq', ht'])); (case ha => rfl)))
      | skip
    (with_reducible show Stop _)
    refine Stop.of ?_
    k_here
    (rename Fr _ _ _ _ => fA)
    (rename News _ _ _ _ => nA)
    refine' execs_midF fA nA (Str.ofString "quote") (QIs n c) ?h1 ?h2
    case h1 =>
      clear hst hoff2 hlt hl
      k_steps
      all_goals ((rename Fr _ _ _ _ => fE); (rename News _ _ _ _ => nE); first
        | exact EdMid.put [c] fE nE (q_yes (by assumption) (by assumption))
        | exact EdMid.keep q fE rfl nE (by first | exact q_yes (by assumption) (by assumption) | exact q_no (by assumption) (.inl (by assumption)) | exact q_no (by assumption) (.inr (by assumption))))
    case h2 =>
      intro hB tkB qB tB fB nB hQ
      k_steps
      (with_reducible show Stop _)
      refine Stop.of ?_
      k_here
      (rename Fr _ _ _ _ => fC)
      (rename News _ _ _ _ => nC)
      refine' execs_midF fC nC (Str.ofString "told") (ToldC n pre c) ?h3 ?h4
      case h3 =>
        k_steps
        all_goals ((rename Fr _ _ _ _ => fE); (rename News _ _ _ _ => nE); first
          | exact EdMid.keep (esL n c) fE rfl nE ⟨t_noneS (by assumption), esL_le n c⟩
          | exact EdMid.keep (esL n c) fE rfl nE ⟨t_same (by assumption) (by assumption), esL_le n c⟩
          | exact EdMid.keep (esL n c) fE rfl nE ⟨t_blank hP (by assumption) (by assumption) (by first | exact .inl (by assumption) | exact .inr (by assumption)) (by assumption), esL_le n c⟩
          | exact EdMid.put [] fE nE ⟨t_first hP (by assumption) (by assumption) (by assumption) (by omega), Nat.zero_le _⟩
          | exact EdMid.put [] fE nE ⟨t_drop hP (by assumption) (by assumption) (by first | exact .inl (by assumption) | exact .inr (by assumption)) (by assumption) (by omega) (by assumption), Nat.zero_le _⟩
          | exact EdMid.put [32] fE nE ⟨t_put1 hP (by assumption) (by assumption) (by first | exact .inl (by assumption) | exact .inr (by assumption)) (by assumption) (by omega), Nat.le_refl _⟩
          | exact EdMid.put [32] fE nE ⟨t_put2 hP (by assumption) (by assumption) (by first | exact .inl (by assumption) | exact .inr (by assumption)) (by assumption) (by omega) (by assumption), Nat.le_refl _⟩)
      case h4 =>
        intro hD tkD T tD fD nD hC
        k_steps
        all_goals ((rename Fr _ _ _ _ => fE); (rename News _ _ _ _ => nE); first
          | (refine' kst_end ((_, ver + 1), (_, _), (_, _)) fE nE ?m1 ?m2 ?ha trivial ?hk ?hr (ed_T1 hP (by assumption) hQ hC (by assumption)); (case hk => kst_all); (case m1 => (intro p hp; (try simp only [List.push_toArray]); exact List.mem_append_left own hp)); (case m2 => exact fun p hp => .tail _ (List.mem_append_right _ hp)); (case hr => (intro z h1 h2 h3; have hk' := h2 _ (.head _); have hq' := h2 _ (.tail _ (.head _)); have ht' : z ≠ Str.ofString "told" := (fun e => by subst e; exact absurd h3 (by decide)); simp [kstB, h1, hk', hq', ht'])); (case ha => rfl))
          | (refine' kst_end ((_, ver), (_, _), (_, _)) fE nE ?m1 ?m2 ?ha trivial ?hk ?hr (ed_T0 hP (by assumption) hQ hC (by assumption)); (case hk => kst_all); (case m1 => (intro p hp; (try simp only [List.push_toArray]); exact List.mem_append_left own hp)); (case m2 => exact fun p hp => .tail _ (List.mem_append_right _ hp)); (case hr => (intro z h1 h2 h3; have hk' := h2 _ (.head _); have hq' := h2 _ (.tail _ (.head _)); have ht' : z ≠ Str.ofString "told" := (fun e => by subst e; exact absurd h3 (by decide)); simp [kstB, h1, hk', hq', ht'])); (case ha => rfl)))
  case a2 =>
    refine pr6 ?_; intro ys ver K tK q tq u h tk _ hP F2 N2
    dsimp only at N2 F2
    obtain ⟨hFl, hsz⟩ := ed_full hP hx
    have hst := hP.hs1
    have hKe := hP.hk1
    dsimp only at hst hKe hsz
    have hK : 0 ≤ K := by omega
    have g1 := take_len (k := K.toNat) hFl
    have g2 := drop_len (k := K.toNat) hFl
    have g3 := rdrop_len (k := K.toNat) hFl
    k_steps
    all_goals first
    | (refine end_str hv True.intro ?_ (by k_asm) (by k_asm) (fun p hp => by first | exact hp | exact .tail _ hp | exact tl2 hp | exact tl3 hp | exact tl4 hp | exact List.mem_append_left _ hp | exact List.mem_append_left _ (.tail _ hp)); first | exact ed_end1 hKe (by assumption) | exact ed_end2 hKe (by assumption))
  )
  simpa using pick n 5 h
end Mine
end
section
namespace Mine
theorem lay_T18 : True := by w_top off; k_with_none; (k_with "ktr_room" => (first | exact rm1 (by assumption) (by decide) | exact rm0 (by assumption) | exact rm2 (by assumption) (by decide) | exact rm3 (by assumption) (by decide) | exact rm4 (by assumption) (by decide))); (k_with "ktr_units" => (first | exact rm1 (by assumption) (by decide) | exact rm0 (by assumption) | exact rm2 (by assumption) (by decide) | exact rm3 (by assumption) (by decide) | exact rm4 (by assumption) (by decide))); (k_with "k_ne" => (first | assumption | (refine neN ?_; (try dsimp only); first | (refine Nat.ne_of_lt ?_; k_extra "kn"; done) | (refine Nat.ne_of_gt ?_; k_extra "kn"; done) | lia | omega))); (k_with "kn" => (repeat (first | with_reducible assumption | exact an0 (by with_reducible assumption) | exact an1 (by with_reducible assumption) | exact an2 (by with_reducible assumption) | exact an3 (by with_reducible assumption) | exact an4 (by with_reducible assumption) | exact an5 (by with_reducible assumption) | exact an6 (by with_reducible assumption) | exact an7 (by with_reducible assumption) | exact an8 (by with_reducible assumption) | exact ae1 (by with_reducible assumption) | exact ae2 (by with_reducible assumption) | exact ae3 (by with_reducible assumption) | exact ae4 (by with_reducible assumption) | exact ae5 (by with_reducible assumption) | exact ae6 (by with_reducible assumption) | exact ae7 (by with_reducible assumption) | exact ae8 (by with_reducible assumption) | exact Nat.lt_succ_self _ | refine lsu ?_))); (k_with "cF" => ((case kF => k_asm); (case kB => k_asm); (case kX => k_asm); (case kT => k_asm); (case kk => exact rfl))); (k_with "cH" => ((case hd => ktr_room); (case hu => ktr_units))); (k_with "cX" => ((case XB => assumption); (case TB => assumption); (case kD => assumption); (case T0 => first | assumption | exact KtsTurn.refl))); (k_with "So" => ((with_reducible show Stop _); refine Stop.of ?_)); (k_with "omega" => ((k_whole; first | ((with_reducible show (_ : Int) ≤ _); first | with_reducible assumption | decide | exact Int.le_trans (by with_reducible assumption) (by decide) | exact Int.le_trans (Int.le_of_lt (by with_reducible assumption)) (by decide) | exact ile (by with_reducible assumption) (by decide) | ((with_reducible show ((_ : Nat) : Int) ≤ _); exact Int.le_trans (Int.ofNat_le.mpr (by with_reducible assumption)) (by decide)) | exact Int.natCast_nonneg _) | ((with_reducible show (_ : Int) < _); first | with_reducible assumption | decide | exact Int.lt_of_le_of_lt (by with_reducible assumption) (by decide) | exact Int.lt_of_lt_of_le (by with_reducible assumption) (by decide) | exact ilt (by with_reducible assumption) (by decide) | ((with_reducible show ((_ : Nat) : Int) < _); exact Int.lt_of_le_of_lt (Int.ofNat_le.mpr (by with_reducible assumption)) (by decide))) | ((with_reducible show (_ : Nat) ≤ _); first | with_reducible assumption | exact Nat.le_of_ble_eq_true rfl | exact Nat.le_trans (by with_reducible assumption) (by decide)) | ((with_reducible show ¬ ((_ : Int) ≥ _)); refine Int.not_le.mpr ?_; omega) | ((with_reducible show _ ∧ _); refine And.intro ?_ ?_ <;> omega)))); (k_with "subscriptTail Name Constant ref int" => ((k_here; (with_reducible show wpAny _ _ (subscriptTail _ _ (Value.ref _) (Value.int _ _)) _ _ _); (with_unfolding_all refine' item_litK ?_ ?_ ?_ ?_ ?_ ?_; rotate_right 6; (focus ((is_list); done)); (decide); (decide); (rfl); (rotate_left 1; (with_unfolding_all rfl); rotate_right 1); k_whole)))); (k_with "ite" => ((k_closed; k_dflt (first | refine ite_pos (by decide +kernel) ?_ | refine ite_neg (by decide +kernel) ?_)))); (k_with "call builtin:isinstance" => (first | with_reducible refine IsiPair.int_str ?_ | with_reducible refine IsiPair.int_tuple ?_ | with_reducible refine IsiPair.str_str ?_ | with_reducible refine IsiPair.str_tuple ?_)); (k_with "storeName" => ((k_here; k_dflt (refine' storeX_L ?_ ?_ ?_ ?_ ?_; rotate_right 5; (rotate_left 4; (kernel_rfl!); rotate_right 4); (k_asm); (k_asm); (rotate_left 1; (rfl); rotate_right 1); k_whole; intro _ _ _; (try k_sweep))))); (k_with "eval Name" => ((k_here; (fail_if_success (with_reducible show wpAny _ _ (eval (PySem.Expr.Name _ _) (compEnvC _ _ _ _)) _ _ _)); name_kind "cell"; k_dflt (refine' nameX_C ?_ ?_ ?_ ?_ ?_ ?_ ?_ ?_; rotate_right 8; (rotate_left 5; (rfl); rotate_right 5); (rotate_left 5; (kernel_rfl); rotate_right 5); (k_asm); (rfl); (focus ((k_mem); done)); (k_asm); (rotate_left 1; (kernel_rfl); rotate_right 1); k_whole)))); (k_with "eval Name" => ((k_here; (fail_if_success (with_reducible show wpAny _ _ (eval (PySem.Expr.Name _ _) (compEnvC _ _ _ _)) _ _ _)); name_kind "globalImplicit"; k_dflt (first | ((refine' nameX_K ?_ ?_ ?_ ?_ ?_ ?_ ?_ ?_; rotate_right 8; (rotate_left 6; (kernel_rfl); rotate_right 6); (k_asm); (k_asm); (k_asm); (rotate_left 2; (rfl); rotate_right 2); (rotate_left 2; (kernel_rfl); rotate_right 2); (focus ((k_is); done)); k_whole)) | ((refine' nameX_B ?_ ?_ ?_ ?_ ?_ ?_ ?_ ?_ ?_ ?_; rotate_right 10; (rotate_left 8; (kernel_rfl); rotate_right 8); (k_asm); (k_asm); (k_asm); (rotate_left 4; (rfl); rotate_right 4); (rotate_left 4; (kernel_rfl); rotate_right 4); (focus ((k_is); done)); (focus ((boot_fast); done)); (decide +kernel); k_whole)))))); (k_with "eval Name" => ((k_here; (fail_if_success (with_reducible show wpAny _ _ (eval (PySem.Expr.Name _ _) (compEnvC _ _ _ _)) _ _ _)); name_kind "local"; k_dflt (refine' nameX_L ?_ ?_ ?_ ?_ ?_ ?_; rotate_right 6; (rotate_left 4; (kernel_rfl); rotate_right 4); (k_asm); (rotate_left 2; (rfl); rotate_right 2); (rotate_left 2; (kernel_rfl); rotate_right 2); (focus ((((repeat (first | with_reducible exact nm_hit | ((with_reducible refine Eq.trans (nm_miss ?_) ?_; kernel_rfl)))); (try rfl))); done)); k_whole)))); (k_with "exec Raise some none" => ((k_here; k_dflt (refine' raise_leave ?_ ?_ ?_ ?_ ?_ ?_ ?_ ?_ ?_ ?_; rotate_right 10; (k_asm); (k_asm); (k_asm); (k_asm); (k_asm); (exact rfl); (ktr_room); (rotate_left 1; (exact rfl); rotate_right 1); (rotate_left 1; (exact rfl); rotate_right 1)); intro _ _ _ _ _; (try dsimp only)))); (k_with "leaving ref" => ((k_here; k_dflt (refine' leave_next ?_ ?_ ?_ ?_ ?_; rotate_right 5; (rotate_left 2; (assumption); rotate_right 2); (rotate_left 1; (assumption); rotate_right 1); (assumption); (assumption)); intro _ _ _; (try dsimp only)))); (have : (0 : Nat) ≤ 1 := by (first | (walk1; done) | decide)); trivial
theorem wd_T18_2 : True := by (k_with "execs cons" => (k_here; (with_reducible show wpAny _ _ (execs (_ :: _) _) _ _ _); (try k_made); (refine execsYg ?_); intro _ _)); (k_with "execs cons" => (k_here; (with_reducible show wpAny _ _ (execs (_ :: _) _) _ _ _); (fail_if_success (with_reducible refine gGq GI.z ?_)); (try k_made); k_dflt (refine' withG ?_ ?_ ?_ ?_; rotate_right 4; (k_asm); (k_asm); (rfl); k_whole); intro _ _ _ gGq)); (k_with "exec Assign" => (k_here; refine Assign_NameF ?_)); (k_with "exec Return some" => (k_here; refine Return_someF ?_)); (k_with "eval BinOp" => (first | (k_here; k_compRoot) | refine BinOpF ?_)); (k_with "eval Subscript" => (first | (k_here; k_compRoot) | refine SubscriptF ?_)); (k_with "eval List" => (first | (k_here; k_compRoot) | refine ListF ?_)); (k_with "eval Tuple" => (first | (k_here; k_compRoot) | refine TupleF ?_)); (k_with "callWith" => (refine callWith_biF ?_)); (k_with "spliced" => (k_here; (refine args_consG ?_); intro _)); (k_with "spliced" => (k_here; (with_reducible show wpAny _ _ (spliced (backTo _ (starEach (PySem.Expr.Name _ _ :: _) _))) _ _ _); (with_reducible refine' gGq GI.a ?_ ?_ ?_ ?_; rotate_right 4); k_dflt ((rotate_left 1; (kernel_rfl); rotate_right 1); (k_asm); (focus ((((repeat (first | with_reducible exact nm_hit | ((with_reducible refine Eq.trans (nm_miss ?_) ?_; kernel_rfl)))); (try rfl))); done)); k_whole))); (k_with "spliced" => (k_here; (with_reducible show wpAny _ _ (spliced (backTo _ (starEach (PySem.Expr.Constant _ _ _ :: _) _))) _ _ _); (first | with_reducible refine gGq GI.i ?_ | with_reducible refine gGq GI.t ?_))); (k_with "spliced" => (k_here; (with_reducible show wpAny _ _ (spliced (backTo _ (starEach [] _))) (KCons _ _) _ _); k_dflt (first | ((with_reducible refine' gGq GI.n1 ?_ ?_ ?_; rotate_right 3; (k_asm); (k_asm))) | ((with_reducible refine' gGq GI.n2 ?_ ?_ ?_; rotate_right 3; (k_asm); (k_asm))) | ((with_reducible refine' gGq GI.n3 ?_ ?_ ?_; rotate_right 3; (k_asm); (k_asm))) | ((with_reducible refine' gGq GI.n4 ?_ ?_ ?_; rotate_right 3; (k_asm); (k_asm))) | with_reducible refine gGq GI.b1 ?_ | with_reducible refine gGq GI.b2 ?_ | with_reducible refine gGq GI.l1 ?_ | with_reducible refine gGq GI.l2 ?_ | with_reducible refine gGq GI.l3 ?_ | with_reducible refine gGq GI.t1 ?_ | with_reducible refine gGq GI.t2 ?_ | with_reducible refine gGq GI.t3 ?_))); (k_with "eval Name" => (k_here; (fail_if_success (with_reducible show wpAny _ _ (eval (PySem.Expr.Name _ _) (compEnvC _ _ _ _)) _ _ _)); name_kind "local"; (with_reducible refine' gGq GI.l ?_ ?_ ?_ ?_; rotate_right 4); k_dflt ((rotate_left 1; (kernel_rfl); rotate_right 1); (k_asm); (focus ((((repeat (first | with_reducible exact nm_hit | ((with_reducible refine Eq.trans (nm_miss ?_) ?_; kernel_rfl)))); (try rfl))); done)); k_whole))); (k_with "storeName" => (k_here; (first | ((with_reducible refine' gGq GI.s ?_ ?_ ?_ ?_; rotate_right 4)) | ((with_reducible refine' gGq GI.u ?_ ?_ ?_ ?_; rotate_right 4))); k_dflt ((rotate_left 2; (kernel_rfl!); rotate_right 2); (k_asm); (k_asm); k_whole; intro _ _ _ _ _; (try k_sweep)))); (k_with "eval Call" => (k_here; (with_reducible show wpAny _ _ (eval (PySem.Expr.Call (PySem.Expr.Name _ _) (_ :: _) [] _) _) _ _ _); k_dflt (first | (((with_reducible refine' gGq GI.k ?_ ?_ ?_ ?_ ?_ ?_ ?_ ?_; rotate_right 8); (rotate_left 3; (kernel_rfl); rotate_right 3); (k_asm); (k_asm); (k_asm); (focus ((k_is); done)); (focus ((k_is); done)); (rfl); k_whole)) | (((fail_if_success (with_reducible first | show wpAny _ _ (eval (PySem.Expr.Call (PySem.Expr.Name (PySem.Str.ofString "range") _) _ _ _) _) _ _ _ | show wpAny _ _ (eval (PySem.Expr.Call (PySem.Expr.Name (PySem.Str.ofString "str") _) _ _ _) _) _ _ _ | show wpAny _ _ (eval (PySem.Expr.Call (PySem.Expr.Name (PySem.Str.ofString "enumerate") _) _ _ _) _) _ _ _ | show wpAny _ _ (eval (PySem.Expr.Call (PySem.Expr.Name (PySem.Str.ofString "list") _) _ _ _) _) _ _ _ | show wpAny _ _ (eval (PySem.Expr.Call (PySem.Expr.Name (PySem.Str.ofString "int") _) _ _ _) _) _ _ _ | show wpAny _ _ (eval (PySem.Expr.Call (PySem.Expr.Name (PySem.Str.ofString "tuple") _) _ _ _) _) _ _ _)); (with_reducible refine' gGq GI.b ?_ ?_ ?_ ?_ ?_ ?_ ?_ ?_ ?_; rotate_right 9); (rotate_left 3; (kernel_rfl); rotate_right 3); (k_asm); (k_asm); (k_asm); (focus ((k_is); done)); (focus ((boot_fast); done)); (decide +kernel); (rfl); k_whole))))); (k_with "enter" => (k_dflt (refine' codeG ?_ ?_ ?_ ?_ ?_ ?_ ?_ ?_ ?_ ?_ ?_ ?_ ?_ ?_ ?_ ?_ ?_ ?_; rotate_right 18; (rotate_left 5; (exact rfl); rotate_right 5); (rotate_left 5; (exact rfl); rotate_right 5); (rotate_left 5; (focus ((first | assumption | exact rfl); done)); rotate_right 5); (k_asm); (k_asm); (k_asm); (k_asm); (k_asm); (focus ((k_is); done)); (focus ((k_is); done)); (focus ((k_room); done)); (exact BindsTo.of_eq rfl); (rotate_left 5; (decide); rotate_right 5); (exact locs rfl); (rotate_left 1; (exact rfl); rotate_right 1); (rotate_left 1; (exact rfl); rotate_right 1); (rotate_left 1; (exact rfl); rotate_right 1); k_whole; intro _ _ _ _ _ _ _ _ _ _ _ gBq _ _ gGq; (try k_lift gBq)))); (k_with "call ref" => (k_here; k_extra "enter")); trivial
theorem wd_T18_3 : True := by (k_with "call ref" => (first | ((k_here; (with_reducible show wpAny _ _ (call (Value.ref 72) [Value.str _ _]) _ _ _); k_dflt (refine' c_textof _ _ _ _ _ _ _ _ _ _ _ _ _ _ _ _ _ ?_ ?_ ?_ ?_ ?_ ?_ trivial ?_ ?_ ?_; rotate_right 9; (rotate_left 3; (k_asm); rotate_right 3); (rotate_left 1; (k_asm); rotate_right 1); (k_asm); (k_asm); (k_asm); (exact rfl); (ktr_room); (ktr_units)); intro tD hD tkD fD nD; (try dsimp only))) | ((k_here; (with_reducible show wpAny _ _ (call (Value.ref 72) [Value.int _ _]) _ _ _); k_dflt (refine' c_textof_x _ _ _ _ _ _ _ _ _ _ _ _ _ _ _ _ _ ?_ ?_ ?_ ?_ ?_ ?_ trivial ?_ ?_ ?_; rotate_right 9; (rotate_left 3; (k_asm); rotate_right 3); (rotate_left 1; (k_asm); rotate_right 1); (k_asm); (k_asm); (k_asm); (exact rfl); (ktr_room); (ktr_units)); intro eX gX hX tkX fX RX UX; (try dsimp only))) | ((k_here; (with_reducible show wpAny _ _ (call (Value.ref 143) [Value.int _ _]) _ _ _); k_dflt (refine' c_sizeR ?_ ?_ ?_ ?_ ?_ ?_ ?_ ?_ ?_ ?_ ?_ ?_; rotate_right 12; (rotate_left 3; (k_asm); rotate_right 3); (rotate_left 5; (omega); rotate_right 5); (rotate_left 5; (omega); rotate_right 5); (rotate_left 1; (k_asm); rotate_right 1); (k_asm); (k_asm); (k_asm); (exact rfl); (ktr_room); (ktr_units)); (focus ((intro hP tD hD tkD fD nD; (try dsimp only)))); (rotate_left 1; (focus ((intro hP eX gX hX tkX fX RX UX; (try dsimp only)))); rotate_right 1))) | ((k_here; (with_reducible show wpAny _ _ (call (Value.ref 143) [Value.str _ _]) _ _ _); k_dflt (refine' c_size_x _ _ _ _ _ _ _ _ _ _ _ _ _ _ _ _ _ ?_ ?_ ?_ ?_ ?_ ?_ trivial ?_ ?_ ?_; rotate_right 9; (rotate_left 3; (k_asm); rotate_right 3); (rotate_left 1; (k_asm); rotate_right 1); (k_asm); (k_asm); (k_asm); (exact rfl); (ktr_room); (ktr_units)); intro eX gX hX tkX fX RX UX; (try dsimp only))) | ((k_here; (with_reducible show wpAny _ _ (call (Value.ref 150) [Value.int _ _]) _ _ _); k_dflt (refine' c_placeR ?_ ?_ ?_ ?_ ?_ ?_ ?_ ?_ ?_ ?_ ?_ ?_; rotate_right 12; (rotate_left 3; (k_asm); rotate_right 3); (rotate_left 5; (omega); rotate_right 5); (rotate_left 5; (omega); rotate_right 5); (rotate_left 1; (k_asm); rotate_right 1); (k_asm); (k_asm); (k_asm); (exact rfl); (ktr_room); (ktr_units)); (focus ((intro hP tD hD tkD fD nD; (try dsimp only)))); (rotate_left 1; (focus ((intro hP eX gX hX tkX fX RX UX; (try dsimp only)))); rotate_right 1))) | ((k_here; (with_reducible show wpAny _ _ (call (Value.ref 150) [Value.str _ _]) _ _ _); k_dflt (refine' c_place_x _ _ _ _ _ _ _ _ _ _ _ _ _ _ _ _ _ ?_ ?_ ?_ ?_ ?_ ?_ trivial ?_ ?_ ?_; rotate_right 9; (rotate_left 3; (k_asm); rotate_right 3); (rotate_left 1; (k_asm); rotate_right 1); (k_asm); (k_asm); (k_asm); (exact rfl); (ktr_room); (ktr_units)); intro eX gX hX tkX fX RX UX; (try dsimp only))))); (k_with "call ref" => (first | ((k_here; (with_reducible show wpAny _ _ (call (Value.ref 213) [_, _]) _ _ _); k_dflt (refine' c_edited _ _ _ _ _ _ _ _ _ _ _ _ _ _ _ _ _ ?_ ?_ ?_ ?_ ?_ ?_ ⟨?_, ?_, ?_, ?_⟩ ?_ ?_ ?_; rotate_right 13; (rotate_left 3; (k_asm); rotate_right 3); (rotate_left 1; (k_asm); rotate_right 1); (k_asm); (k_asm); (k_asm); (exact rfl); (assumption); (assumption); (assumption); (assumption); (ktr_room); (ktr_units)); intro tD hD tkD fD nD; (try dsimp only))))); trivial
theorem c_edit {w : World} {mean : ExcName → Option Value} {mg mb : Str → Option Value} {news : List (Addr × Obj)} {la : Addr} {cc : Nat} {x : Str} {n : Int} {t u : Tok} {wv : Value} : Ct w mean mg mb 347 40 (news) ((la, W.listOf #[.str x t, .int n u] cc) ∈ news ∧ x.length ≤ 100 ∧ (∀ c ∈ cd x, c ≤ 255) ∧ Builtin.bitAnd n 1 = 0 ∧ Builtin.bitAnd n 4 = 0 ∧ 0 ≤ n ∧ n < 512) [wv, .ref la] (RetO w news (.val (fun t => .str (St (edOut n (cd x))) t))) := by
  refine shed ?_ fun _ n h => ?_
  focus (
  intro dp un gd cn cs a ccd cl outer A₀ base h₀ L m s Q E B F X N T hk hpre hd hu hret
  first | (refine and7 hpre ?_; clear hpre; intro hm hx hal h1 h4 hn0 hn1) | obtain ⟨hm, hx, hal, h1, h4, hn0, hn1⟩ := hpre
  replace N := news_cons N hm
  have hv : True → _ := fun _ => hret
  clear hret
  dsimp only [RetV, RetO] at hv
  k_extra "enter"
  k_steps
  all_goals first
    | (refine end_str hv (True.intro) ?_ (by k_asm) (by k_asm) (fun p hp => by first | exact hp | exact .tail _ hp | exact tl2 hp | exact tl3 hp | exact tl4 hp | exact List.mem_append_left _ hp | exact List.mem_append_left _ (.tail _ hp)); (rfl))
    | (refine end_int hv (True.intro) ?_ (by k_asm) (by k_asm) (fun p hp => by first | exact hp | exact .tail _ hp | exact tl2 hp | exact tl3 hp | exact tl4 hp | exact List.mem_append_left _ hp | exact List.mem_append_left _ (.tail _ hp)); (rfl))
    | (exfalso; omega)
    | (exfalso; simp_all; done)
  )
  simpa using pick n 5 h
theorem c_edit_x {w : World} {mean : ExcName → Option Value} {mg mb : Str → Option Value} {news : List (Addr × Obj)} {la : Addr} {cc : Nat} {x : Str}  {t u : Tok} {wv : Value} : Ct w mean mg mb 347 40 (news) ((la, W.listOf #[.str x t, .int 512 u] cc) ∈ news) [wv, .ref la] (RetO w news (.err "FC")) := by
  refine shed ?_ fun _ n h => ?_
  focus (
  intro dp un gd cn cs a ccd cl outer A₀ base h₀ L m s Q E B F X N T hk hpre hd hu hret
  replace N := news_cons N hpre
  have hx : True → _ := fun _ => hret
  clear hret
  dsimp only [RetX, RetO] at hx
  k_extra "enter"
  k_steps
  all_goals first
    | exact hx (True.intro) _ _ _ _ (by assumption) (flies_sub (by assumption) (fun p hp => by first | exact hp | exact .tail _ hp | exact tl2 hp | exact tl3 hp | exact tl4 hp | exact List.mem_append_left _ hp | exact List.mem_append_left _ (.tail _ hp))) (by assumption)
    | (exfalso; omega)
    | (exfalso; simp_all; done)
  )
  simpa using pick n 5 h
end Mine
end
section
namespace Mine
theorem OT11.gdT11 : True := trivial
open OT11
theorem wd_T11_1 : True := by (k_with "storeName" => (k_here; (first | ((with_reducible refine' gGq GI.p ?_ ?_ ?_ ?_; rotate_right 4)) | ((with_reducible refine' gGq GI.r ?_ ?_ ?_ ?_; rotate_right 4))); k_dflt ((rotate_left 2; (kernel_rfl!); rotate_right 2); (k_asm); (k_asm); k_whole; intro _ _ _; (try k_sweep)))); trivial
theorem wd_T11_2 : True := by (k_with "exec While BoolOp" => ((fail_if_success (fail_if_success (have : True := gdT11))); ((refine Stop.go ?_)))); (k_with "exec While BoolOp cons nil" => ((fail_if_success (fail_if_success (have : True := gdT11))); ((refine Stop.go ?_)))); (k_with "state" => (first | exact ⟨by omega, by omega, by decide, inb_init (by omega)⟩ | exact inb_step (b := 16) (by decide) (by decide) (by assumption) (by assumption) (by assumption) (by first | exact .inl (by assumption) | exact .inr (by assumption)))); (k_with "measure" => (exact inb_less (b := 16) (by decide) (by decide) (by assumption) (by first | exact .inl (by assumption) | exact .inr (by assumption)))); trivial
theorem c_inb16 {w : World} {mean : ExcName → Option Value} {mg mb : Str → Option Value} {news : List (Addr × Obj)} {k : Int} {t u : Tok} : Ct w mean mg mb 199 20 (news) (0 ≤ k ∧ k ≤ 65535) [.int k t, .int 16 u] (RetO w news (.val (fun t => .str (St (inb 16 k.toNat)) t))) := by
  refine shed ?_ fun _ n h => ?_
  focus (
  intro dp un gd cn cs a ccd cl outer A₀ base h₀ L m s Q E B F X N T hk hpre hd hu hret
  first | (refine and2 hpre ?_; clear hpre; intro hk0 hk1) | obtain ⟨hk0, hk1⟩ := hpre
  obtain ⟨n, rfl⟩ := Int.eq_ofNat_of_zero_le hk0
  have hv : True → _ := fun _ => hret
  clear hret
  dsimp only [RetV, RetO] at hv
  k_extra "enter"
  k_steps
  all_goals (try (k_extra "So"; k_here; (k_while (fun _ k x => 0 ≤ k ∧ k ≤ 65535 ∧ x.length ≤ 20 ∧ InbInv 16 n k x) (fun _ k x => k.toNat + (if x.length = 0 then 1 else 0)) "number" "found"); all_goals k_steps))
  all_goals first
    | (refine end_str hv (True.intro) ?_ (by k_asm) (by k_asm) (fun p hp => by first | exact hp | exact .tail _ hp | exact tl2 hp | exact tl3 hp | exact tl4 hp | exact List.mem_append_left _ hp | exact List.mem_append_left _ (.tail _ hp)); (exact inb_stop (by assumption) (by assumption) (by assumption)))
    | (refine end_int hv (True.intro) ?_ (by k_asm) (by k_asm) (fun p hp => by first | exact hp | exact .tail _ hp | exact tl2 hp | exact tl3 hp | exact tl4 hp | exact List.mem_append_left _ hp | exact List.mem_append_left _ (.tail _ hp)); (exact inb_stop (by assumption) (by assumption) (by assumption)))
    | (exfalso; omega)
    | (exfalso; simp_all; done)
  )
  simpa using pick n 5 h
theorem wd_T11_20 : True := by (k_with "state" => (first | exact ⟨by omega, by omega, by decide, inb_init (by omega)⟩ | exact inb_step (b := 8) (by decide) (by decide) (by assumption) (by assumption) (by assumption) (by first | exact .inl (by assumption) | exact .inr (by assumption)))); (k_with "measure" => (exact inb_less (b := 8) (by decide) (by decide) (by assumption) (by first | exact .inl (by assumption) | exact .inr (by assumption)))); trivial
theorem c_inb8 {w : World} {mean : ExcName → Option Value} {mg mb : Str → Option Value} {news : List (Addr × Obj)} {k : Int} {t u : Tok} : Ct w mean mg mb 199 20 (news) (0 ≤ k ∧ k ≤ 65535) [.int k t, .int 8 u] (RetO w news (.val (fun t => .str (St (inb 8 k.toNat)) t))) := by
  refine shed ?_ fun _ n h => ?_
  focus (
  intro dp un gd cn cs a ccd cl outer A₀ base h₀ L m s Q E B F X N T hk hpre hd hu hret
  first | (refine and2 hpre ?_; clear hpre; intro hk0 hk1) | obtain ⟨hk0, hk1⟩ := hpre
  obtain ⟨n, rfl⟩ := Int.eq_ofNat_of_zero_le hk0
  have hv : True → _ := fun _ => hret
  clear hret
  dsimp only [RetV, RetO] at hv
  k_extra "enter"
  k_steps
  all_goals (try (k_extra "So"; k_here; (k_while (fun _ k x => 0 ≤ k ∧ k ≤ 65535 ∧ x.length ≤ 20 ∧ InbInv 8 n k x) (fun _ k x => k.toNat + (if x.length = 0 then 1 else 0)) "number" "found"); all_goals k_steps))
  all_goals first
    | (refine end_str hv (True.intro) ?_ (by k_asm) (by k_asm) (fun p hp => by first | exact hp | exact .tail _ hp | exact tl2 hp | exact tl3 hp | exact tl4 hp | exact List.mem_append_left _ hp | exact List.mem_append_left _ (.tail _ hp)); (exact inb_stop (by assumption) (by assumption) (by assumption)))
    | (refine end_int hv (True.intro) ?_ (by k_asm) (by k_asm) (fun p hp => by first | exact hp | exact .tail _ hp | exact tl2 hp | exact tl3 hp | exact tl4 hp | exact List.mem_append_left _ hp | exact List.mem_append_left _ (.tail _ hp)); (exact inb_stop (by assumption) (by assumption) (by assumption)))
    | (exfalso; omega)
    | (exfalso; simp_all; done)
  )
  simpa using pick n 5 h
end Mine
end
section
namespace Mine
theorem OT12.gdT12 : True := trivial
open OT12
theorem gen_add {P : Program} {w : World} {A : Around} {α : Type} {T : Sem α} {Q : α → Shared → Prop} {E : Value → Shared → Prop} {x y : Nat} {h : Heap} {g : Array GenState} {d : Drawn} {o : OsState} (H : ∀ tk, wpAny (model P w) A T Q E ⟨h, g, d, tk, o⟩) : wpAny (model P w) A T Q E ⟨h, g, d, x + y, o⟩ := H _
theorem wd_T12_2 : True := by (k_with "getAttr ref" => ((fail_if_success (fail_if_success (have : True := gdT12))); ((k_here; k_dflt (refine' get_own ?_ ?_ ?_ ?_ ?_ ?_ ?_ ?_ ?_ ?_; rotate_right 10; (k_asm); (k_asm); (focus ((k_inst); done)); (focus ((k_is); done)); (focus ((k_is); done)); (focus ((k_is); done)); (focus ((k_is); done)); (assumption); (focus ((k_handed); done)); k_whole))))); (k_with "execs cons" => ((fail_if_success (fail_if_success (have : True := gdT12))); ((k_here; (with_reducible refine gen_add ?_); intro tk; (try dsimp only))))); (k_with "execs nil" => ((fail_if_success (fail_if_success (have : True := gdT12))); ((k_here; (with_reducible refine gen_add ?_); intro tk; (try dsimp only))))); trivial
theorem c_bits {w : World} {mean : ExcName → Option Value} {mg mb : Str → Option Value} {news : List (Addr × Obj)} {wd d : Addr} {es : List DictEntry} {cap : Nat} {n : Int}  {tb t : Tok} : Ct w mean mg mb 302 30 ((wd, W.instObj 372 d) :: (d, dictOf es cap) :: news) (getL "bits" es = some (some (.int 16 tb)) ∧ -40000 ≤ n ∧ n ≤ 70000) [.ref wd, .int n t] (RetO w ((wd, W.instObj 372 d) :: (d, dictOf es cap) :: news) (if -32768 ≤ n ∧ n ≤ 65535 then .val (fun t => .int (n % 65536) t) else .err "OV")) := by
  refine shed ?_ fun _ n h => ?_
  focus (
  intro dp un gd cn cs a ccd cl outer A₀ base h₀ L m s Q E B F X N T hk hpre hd hu hret
  first | (refine and3 hpre ?_; clear hpre; intro hbits hn1 hn2) | obtain ⟨hbits, hn1, hn2⟩ := hpre
  refine and2 (ret_if hret) ?_; intro hv hx
  clear hret
  dsimp only [RetV, RetO] at hv
  dsimp only [RetX, RetO] at hx
  k_extra "enter"
  k_steps
  all_goals (try simp only [show (1 : Int) * 2 ^ Int.toNat 16 = 65536 from rfl, show (1 : Int) * 2 ^ Int.toNat (16 - 1) = 32768 from rfl] at *)
  all_goals first
    | (refine end_str hv (by omega) ?_ (by k_asm) (by k_asm) (fun p hp => by first | exact hp | exact .tail _ hp | exact tl2 hp | exact tl3 hp | exact tl4 hp | exact List.mem_append_left _ hp | exact List.mem_append_left _ (.tail _ hp)); (exact Int.fmod_eq_emod_of_nonneg _ (by decide)))
    | (refine end_int hv (by omega) ?_ (by k_asm) (by k_asm) (fun p hp => by first | exact hp | exact .tail _ hp | exact tl2 hp | exact tl3 hp | exact tl4 hp | exact List.mem_append_left _ hp | exact List.mem_append_left _ (.tail _ hp)); (exact Int.fmod_eq_emod_of_nonneg _ (by decide)))
    | exact hx (by omega) _ _ _ _ (by assumption) (flies_sub (by assumption) (fun p hp => by first | exact hp | exact .tail _ hp | exact tl2 hp | exact tl3 hp | exact tl4 hp | exact List.mem_append_left _ hp | exact List.mem_append_left _ (.tail _ hp))) (by assumption)
    | (exfalso; omega)
    | (exfalso; simp_all; done)
  )
  simpa using pick n 5 h
theorem c_bits_tm {w : World} {mean : ExcName → Option Value} {mg mb : Str → Option Value} {news : List (Addr × Obj)} {wd d : Addr} {es : List DictEntry} {cap : Nat}  {x : Str} {t : Tok} : Ct w mean mg mb 302 30 ((wd, W.instObj 372 d) :: (d, dictOf es cap) :: news) (True) [.ref wd, .str x t] (RetO w ((wd, W.instObj 372 d) :: (d, dictOf es cap) :: news) (.err "TM")) := by
  refine shed ?_ fun _ n h => ?_
  focus (
  intro dp un gd cn cs a ccd cl outer A₀ base h₀ L m s Q E B F X N T hk hpre hd hu hret
  have hx : True → _ := fun _ => hret
  clear hret
  dsimp only [RetX, RetO] at hx
  k_extra "enter"
  k_steps
  all_goals first
    | exact hx (True.intro) _ _ _ _ (by assumption) (flies_sub (by assumption) (fun p hp => by first | exact hp | exact .tail _ hp | exact tl2 hp | exact tl3 hp | exact tl4 hp | exact List.mem_append_left _ hp | exact List.mem_append_left _ (.tail _ hp))) (by assumption)
    | (exfalso; omega)
    | (exfalso; simp_all; done)
  )
  simpa using pick n 5 h
end Mine
end
section
namespace Mine
theorem wd_T13_1 : True := by (k_with "execs cons" => (k_here; (with_reducible show wpAny _ _ (execs (_ :: _) _) _ _ _); (try k_made); (refine execsYg ?_); intro _ _)); (k_with "execs cons" => (k_here; (with_reducible show wpAny _ _ (execs (_ :: _) _) _ _ _); (fail_if_success (with_reducible refine gGq GI.z ?_)); (try k_made); k_dflt (refine' withG ?_ ?_ ?_ ?_; rotate_right 4; (k_asm); (k_asm); (rfl); k_whole); intro _ _ _ gGq)); (k_with "storeName" => (k_here; (first | ((with_reducible refine' gGq GI.s ?_ ?_ ?_ ?_; rotate_right 4)) | ((with_reducible refine' gGq GI.u ?_ ?_ ?_ ?_; rotate_right 4))); k_dflt ((rotate_left 2; (kernel_rfl!); rotate_right 2); (k_asm); (k_asm); k_whole; intro _ _ _ _ _; (try k_sweep)))); trivial
theorem wd_T13_2 : True := by (k_with "call ref" => (first | ((k_here; (with_reducible show wpAny _ _ (call (Value.ref 199) [_, _]) _ _ _); k_dflt (refine' c_inb16 _ _ _ _ _ _ _ _ _ _ _ _ _ _ _ _ _ ?_ ?_ ?_ ?_ ?_ ?_ ⟨?_, ?_⟩ ?_ ?_ ?_; rotate_right 11; (rotate_left 3; (k_asm); rotate_right 3); (rotate_left 1; (k_asm); rotate_right 1); (k_asm); (k_asm); (k_asm); (exact rfl); (omega); (omega); (ktr_room); (ktr_units)); intro tD hD tkD fD nD; (try dsimp only))) | ((k_here; (with_reducible show wpAny _ _ (call (Value.ref 199) [_, _]) _ _ _); k_dflt (refine' c_inb8 _ _ _ _ _ _ _ _ _ _ _ _ _ _ _ _ _ ?_ ?_ ?_ ?_ ?_ ?_ ⟨?_, ?_⟩ ?_ ?_ ?_; rotate_right 11; (rotate_left 3; (k_asm); rotate_right 3); (rotate_left 1; (k_asm); rotate_right 1); (k_asm); (k_asm); (k_asm); (exact rfl); (omega); (omega); (ktr_room); (ktr_units)); intro tD hD tkD fD nD; (try dsimp only))) | ((k_here; (with_reducible show wpAny _ _ (call (Value.ref 302) [_, _]) _ _ _); k_dflt (refine' c_bits _ _ _ _ _ _ _ _ _ _ _ _ _ _ _ _ _ ?_ ?_ ?_ ?_ ?_ ?_ ⟨?_, ?_, ?_⟩ ?_ ?_ ?_; rotate_right 12; (rotate_left 3; (focus ((exact news_tail (by assumption)); done)); rotate_right 3); (rotate_left 5; (assumption); rotate_right 5); (rotate_left 5; (focus ((first | omega | ((simp only [gd0]; omega))); done)); rotate_right 5); (rotate_left 5; (focus ((first | omega | ((simp only [gd0]; omega))); done)); rotate_right 5); (rotate_left 1; (k_asm); rotate_right 1); (k_asm); (k_asm); (k_asm); (exact rfl); (ktr_room); (ktr_units)); (refine' ret_ite ?_ ?_; rotate_right 2); (focus ((intro hP tD hD tkD fD nD; (try dsimp only)))); (rotate_left 1; (focus ((intro hP eX gX hX tkX fX RX UX; (try dsimp only)))); rotate_right 1))))); trivial
theorem c_hex {w : World} {mean : ExcName → Option Value} {mg mb : Str → Option Value} {news : List (Addr × Obj)} {wd d la : Addr} {es : List DictEntry} {cap cc : Nat} {n : Int}  {tb t : Tok} : Ct w mean mg mb 309 40 ((wd, W.instObj 372 d) :: (d, dictOf es cap) :: news) (getL "bits" es = some (some (.int 16 tb)) ∧ (la, W.listOf #[.int n t] cc) ∈ news ∧ -40000 ≤ n ∧ n ≤ 70000) [.ref wd, .ref la] (RetO w ((wd, W.instObj 372 d) :: (d, dictOf es cap) :: news) (if -32768 ≤ n ∧ n ≤ 65535 then .val (fun t => .str (St (inb 16 (n % 65536).toNat)) t) else .err "OV")) := by
  refine shed ?_ fun _ n h => ?_
  focus (
  intro dp un gd cn cs a ccd cl outer A₀ base h₀ L m s Q E B F X N T hk hpre hd hu hret
  first | (refine and4 hpre ?_; clear hpre; intro hbits hm hn1 hn2) | obtain ⟨hbits, hm, hn1, hn2⟩ := hpre
  replace N := news_cons N (tl2 hm)
  refine and2 (ret_if hret) ?_; intro hv hx
  clear hret
  dsimp only [RetV, RetO] at hv
  dsimp only [RetX, RetO] at hx
  k_extra "enter"
  k_steps
  all_goals (try simp only [gd0] at *)
  all_goals first
    | (refine end_str hv (by omega) ?_ (by k_asm) (by k_asm) (fun p hp => by first | exact hp | exact .tail _ hp | exact tl2 hp | exact tl3 hp | exact tl4 hp | exact List.mem_append_left _ hp | exact List.mem_append_left _ (.tail _ hp)); (rfl))
    | (refine end_int hv (by omega) ?_ (by k_asm) (by k_asm) (fun p hp => by first | exact hp | exact .tail _ hp | exact tl2 hp | exact tl3 hp | exact tl4 hp | exact List.mem_append_left _ hp | exact List.mem_append_left _ (.tail _ hp)); (rfl))
    | exact hx (by omega) _ _ _ _ (by assumption) (flies_sub (by assumption) (fun p hp => by first | exact hp | exact .tail _ hp | exact tl2 hp | exact tl3 hp | exact tl4 hp | exact List.mem_append_left _ hp | exact List.mem_append_left _ (.tail _ hp))) (by assumption)
    | (exfalso; omega)
    | (exfalso; simp_all; done)
  )
  simpa using pick n 5 h
theorem c_oct {w : World} {mean : ExcName → Option Value} {mg mb : Str → Option Value} {news : List (Addr × Obj)} {wd d la : Addr} {es : List DictEntry} {cap cc : Nat} {n : Int}  {tb t : Tok} : Ct w mean mg mb 316 40 ((wd, W.instObj 372 d) :: (d, dictOf es cap) :: news) (getL "bits" es = some (some (.int 16 tb)) ∧ (la, W.listOf #[.int n t] cc) ∈ news ∧ -40000 ≤ n ∧ n ≤ 70000) [.ref wd, .ref la] (RetO w ((wd, W.instObj 372 d) :: (d, dictOf es cap) :: news) (if -32768 ≤ n ∧ n ≤ 65535 then .val (fun t => .str (St (inb 8 (n % 65536).toNat)) t) else .err "OV")) := by
  refine shed ?_ fun _ n h => ?_
  focus (
  intro dp un gd cn cs a ccd cl outer A₀ base h₀ L m s Q E B F X N T hk hpre hd hu hret
  first | (refine and4 hpre ?_; clear hpre; intro hbits hm hn1 hn2) | obtain ⟨hbits, hm, hn1, hn2⟩ := hpre
  replace N := news_cons N (tl2 hm)
  refine and2 (ret_if hret) ?_; intro hv hx
  clear hret
  dsimp only [RetV, RetO] at hv
  dsimp only [RetX, RetO] at hx
  k_extra "enter"
  k_steps
  all_goals (try simp only [gd0] at *)
  all_goals first
    | (refine end_str hv (by omega) ?_ (by k_asm) (by k_asm) (fun p hp => by first | exact hp | exact .tail _ hp | exact tl2 hp | exact tl3 hp | exact tl4 hp | exact List.mem_append_left _ hp | exact List.mem_append_left _ (.tail _ hp)); (rfl))
    | (refine end_int hv (by omega) ?_ (by k_asm) (by k_asm) (fun p hp => by first | exact hp | exact .tail _ hp | exact tl2 hp | exact tl3 hp | exact tl4 hp | exact List.mem_append_left _ hp | exact List.mem_append_left _ (.tail _ hp)); (rfl))
    | exact hx (by omega) _ _ _ _ (by assumption) (flies_sub (by assumption) (fun p hp => by first | exact hp | exact .tail _ hp | exact tl2 hp | exact tl3 hp | exact tl4 hp | exact List.mem_append_left _ hp | exact List.mem_append_left _ (.tail _ hp))) (by assumption)
    | (exfalso; omega)
    | (exfalso; simp_all; done)
  )
  simpa using pick n 5 h
end Mine
end
section
open PySem.Spec
namespace Mine
noncomputable abbrev RetB (news : List (Addr × Obj)) (lo hi : Int) : Ends := fun _ _ h₀ L m s Q _ =>
  ∀ (k : Int) (t : Tok) (h' : Heap) (tk' : Nat), lo ≤ k → k ≤ hi → Fr h₀ L h' m → News h₀ L h' news → Q (.int k t) { s with heap := h', toks := tk' }
noncomputable abbrev RetT (news : List (Addr × Obj)) (P : Int → Int → Prop) : Ends := fun _ _ h₀ L m s Q _ =>
  ∀ (D : Addr) (a b : Int) (ta tb : Tok) (h' : Heap) (tk' : Nat), P a b → Fr h₀ L h' m → News h₀ L h' ((D, ({ cls := .type "tuple", data := .seq #[.int a ta, .int b tb] } : Obj)) :: news) → Q (.ref D) { s with heap := h', toks := tk' }
noncomputable def PairOf (n a b : Int) : Prop := 0 ≤ b ∧ b ≤ 10 ∧ -65535 ≤ a ∧ a ≤ 65535 ∧ a * 10 ^ b.toNat = n
noncomputable def MadeInv (n k e : Int) : Prop := k * 10 ^ e.toNat = n
theorem made_bound {n k e : Int} (h : MadeInv n k e) (hn : n ≤ 65535) (hk : 1 ≤ k) (he : 0 ≤ e) : e ≤ 4 := by
  rcases Int.lt_or_le 4 e with h1 | h1
  · exfalso
    have h2 : (100000 : Int) ≤ 10 ^ e.toNat := by
      have h9 : (10 : Nat) ^ 5 ≤ 10 ^ e.toNat := Nat.pow_le_pow_right (by decide) (by omega)
      have h8 : ((10 : Nat) ^ e.toNat : Nat) = ((10 : Int) ^ e.toNat) := by simp
      rw [← h8]
      have h7 : (10 : Nat) ^ 5 = 100000 := by decide
      omega
    unfold MadeInv at h
    have h3 : 1 * (10 : Int) ^ e.toNat ≤ k * 10 ^ e.toNat := Int.mul_le_mul_of_nonneg_right hk (by omega)
    omega
  · exact h1
theorem made_init {n : Int} : MadeInv n n 0 := by simp [MadeInv]
theorem made_step {n k e : Int} (hk : 1 ≤ k) (hk2 : k ≤ 65535) (he : 0 ≤ e) (he2 : e ≤ 10) (h : MadeInv n k e) (hn : n ≤ 65535) (hm : k.fmod 10 = 0) :
    1 ≤ k.fdiv 10 ∧ k.fdiv 10 ≤ 65535 ∧ 0 ≤ e + 1 ∧ e + 1 ≤ 10 ∧ MadeInv n (k.fdiv 10) (e + 1) := by
  have hb := made_bound h hn hk he
  have ed : k.fdiv 10 = k / 10 := Int.fdiv_eq_ediv_of_nonneg _ (by decide)
  have em : k.fmod 10 = k % 10 := Int.fmod_eq_emod_of_nonneg _ (by decide)
  rw [em] at hm
  rw [ed]
  refine ⟨by omega, by omega, by omega, by omega, ?_⟩
  unfold MadeInv at h ⊢
  have e1 : (e + 1).toNat = e.toNat + 1 := by lia
  rw [e1, Int.pow_succ, ← h]
  have e2 : k = k / 10 * 10 := by lia
  rw [Int.mul_comm (10 ^ e.toNat) 10, ← Int.mul_assoc, ← e2]
theorem made_less {k : Int} (hk : 1 ≤ k) : (k.fdiv 10).toNat < k.toNat := by
  have ed : k.fdiv 10 = k / 10 := Int.fdiv_eq_ediv_of_nonneg _ (by decide)
  rw [ed]
  omega
theorem made_neg {n k e : Int} (hk : 1 ≤ k) (hk2 : k ≤ 65535) (he : 0 ≤ e) (he2 : e ≤ 10) (h : MadeInv (if n < 0 then -n else n) k e) (hn : n < 0) : PairOf n (-k) e := by
  refine ⟨he, he2, by omega, by omega, ?_⟩
  unfold MadeInv at h
  rw [if_pos hn] at h
  rw [Int.neg_mul, h]; lia
theorem made_pos {n k e : Int} (hk : 1 ≤ k) (hk2 : k ≤ 65535) (he : 0 ≤ e) (he2 : e ≤ 10) (h : MadeInv (if n < 0 then -n else n) k e) (hn : ¬ n < 0) : PairOf n k e := by
  refine ⟨he, he2, by omega, by omega, ?_⟩
  unfold MadeInv at h
  rw [if_neg hn] at h
  exact h
end Mine
end
section
open PySem.Spec
namespace Mine
noncomputable def isDig (c : Nat) : Bool := decide (48 ≤ c ∧ c ≤ 57)
noncomputable def valOf (l : List Nat) : Int := l.foldl (fun (v : Int) (c : Nat) => 10 * v + (c : Int) - 48) 0
theorem tw_more {p : Nat → Bool} : ∀ (l : List Nat) (k : Nat), k ≤ (l.takeWhile p).length → k < l.length → p (l.getD k 0) = true → k < (l.takeWhile p).length ∧ (l.takeWhile p).getD k 0 = l.getD k 0
  | [], k, _, h, _ => absurd h (Nat.not_lt_zero _)
  | a :: r, 0, _, _, h => by
    have h' : p a = true := h
    simp [List.takeWhile_cons, h']
  | a :: r, k + 1, h1, h2, h3 => by
    cases hp : p a with
    | false => simp [List.takeWhile_cons, hp] at h1
    | true =>
      simp only [List.takeWhile_cons, hp, if_true, List.length_cons] at h1 ⊢
      have := tw_more (p := p) r k (by lia) (by simpa using h2) (by simpa using h3)
      exact ⟨by omega, by simpa using this.2⟩
theorem tw_stop {p : Nat → Bool} : ∀ (l : List Nat) (k : Nat), k ≤ (l.takeWhile p).length → (k < l.length → p (l.getD k 0) = false) → k = (l.takeWhile p).length
  | [], k, h, _ => by simpa using h
  | a :: r, 0, _, h => by
    have h' : p a = false := h (by simp)
    simp [List.takeWhile_cons, h']
  | a :: r, k + 1, h1, h2 => by
    cases hp : p a with
    | false => simp [List.takeWhile_cons, hp] at h1
    | true =>
      simp only [List.takeWhile_cons, hp, if_true, List.length_cons] at h1 ⊢
      have := tw_stop (p := p) r k (by lia) (fun h => by simpa using h2 (by simpa using h))
      lia
theorem val_snoc (l : List Nat) (c : Nat) : valOf (l ++ [c]) = 10 * valOf l + (c : Int) - 48 := by simp [valOf]
theorem val_bnd : ∀ (l : List Nat) (v : Int), 0 ≤ v → (∀ c ∈ l, isDig c = true) → 0 ≤ l.foldl (fun (v : Int) (c : Nat) => 10 * v + (c : Int) - 48) v ∧ l.foldl (fun (v : Int) (c : Nat) => 10 * v + (c : Int) - 48) v < (v + 1) * 10 ^ l.length
  | [], v, hv, _ => by simp; omega
  | c :: r, v, hv, h => by
    have hc : 48 ≤ c ∧ c ≤ 57 := of_decide_eq_true (h c (.head _))
    have ih := val_bnd r (10 * v + (c : Int) - 48) (by omega) fun d hd => h d (.tail _ hd)
    rw [List.foldl_cons]
    refine ⟨ih.1, Int.lt_of_lt_of_le ih.2 ?_⟩
    rw [List.length_cons, Int.pow_succ]
    have hz : (0 : Int) ≤ 10 ^ r.length := Int.pow_nonneg (by decide)
    have h2 : (10 * v + (c : Int) - 48 + 1) * 10 ^ r.length ≤ ((v + 1) * 10) * 10 ^ r.length := Int.mul_le_mul_of_nonneg_right (by lia) hz
    rw [Int.mul_comm (10 ^ r.length) 10, ← Int.mul_assoc]
    exact h2
theorem val_bound (l : List Nat) (h : ∀ c ∈ l, isDig c = true) : 0 ≤ valOf l ∧ valOf l < 10 ^ l.length := by
  have := val_bnd l 0 (by decide) h
  simpa [valOf] using this
noncomputable abbrev dsOf (x : Str) (a : Int) : List Nat := ((cd x).drop a.toNat).takeWhile isDig
theorem ds_dig (x : Str) (a : Int) (c : Nat) (h : c ∈ dsOf x a) : isDig c = true := by
  have : ∀ l : List Nat, c ∈ l.takeWhile isDig → isDig c = true := by
    intro l
    induction l with
    | nil => intro h; simp at h
    | cons b r ih =>
      intro h
      rw [List.takeWhile_cons] at h
      cases hb : isDig b with
      | false => simp [hb] at h
      | true =>
        simp only [hb, if_true, List.mem_cons] at h
        rcases h with rfl | h
        · exact hb
        · exact ih h
  exact this _ h
noncomputable def RunInv (x : Str) (a p f : Int) : Prop := ∃ k : Nat, p = a + (k : Int) ∧ k ≤ (dsOf x a).length ∧ f = valOf ((dsOf x a).take k)
theorem run_init {x : Str} {a : Int} : RunInv x a a 0 := ⟨0, by lia, Nat.zero_le _, by simp [valOf]⟩
theorem lt_0 (c : Nat) : (St [c]).cps.toList < (Str.ofString "0").cps.toList ↔ c < 48 := one_lt c 48
theorem lt_9 (c : Nat) : (Str.ofString "9").cps.toList < (St [c]).cps.toList ↔ 57 < c := one_lt 57 c
theorem dig_of {x : Str} {p : Int} (h0 : 0 ≤ p) (h1 : p < (x.length : Int)) (hl : ¬ (Txt.item x p).cps.toList < (Str.ofString "0").cps.toList) (hh : ¬ (Str.ofString "9").cps.toList < (Txt.item x p).cps.toList) : isDig ((cd x).getD p.toNat 0) = true := by
  rw [item_at x p h0 h1] at hl hh
  rw [lt_0] at hl
  rw [lt_9] at hh
  exact decide_eq_true ⟨by omega, by omega⟩
theorem nodig_l {x : Str} {p : Int} (h0 : 0 ≤ p) (h1 : p < (x.length : Int)) (hl : (Txt.item x p).cps.toList < (Str.ofString "0").cps.toList) : isDig ((cd x).getD p.toNat 0) = false := by
  rw [item_at x p h0 h1, lt_0] at hl
  exact decide_eq_false (by omega)
theorem nodig_h {x : Str} {p : Int} (h0 : 0 ≤ p) (h1 : p < (x.length : Int)) (hl : (Str.ofString "9").cps.toList < (Txt.item x p).cps.toList) : isDig ((cd x).getD p.toNat 0) = false := by
  rw [item_at x p h0 h1, lt_9] at hl
  exact decide_eq_false (by omega)
theorem run_bound {x : Str} {a p f : Int} (hd : (dsOf x a).length ≤ 6) (h : RunInv x a p f) : 0 ≤ f ∧ f ≤ 999999 := by
  obtain ⟨k, _, hk, rfl⟩ := h
  have h2 := val_bound ((dsOf x a).take k) fun c hc => ds_dig x a c (List.mem_of_mem_take hc)
  have h3 : ((dsOf x a).take k).length ≤ 6 := by rw [List.length_take]; lia
  have h4 : (10 : Int) ^ ((dsOf x a).take k).length ≤ 1000000 := by
    have h5 : (10 : Nat) ^ ((dsOf x a).take k).length ≤ 10 ^ 6 := Nat.pow_le_pow_right (by decide) h3
    have h6 : ((10 ^ ((dsOf x a).take k).length : Nat) : Int) = (10 : Int) ^ ((dsOf x a).take k).length := by simp
    rw [← h6]
    have h7 : (10 : Nat) ^ 6 = 1000000 := by decide
    omega
  omega
theorem getD_drop (l : List Nat) (a k : Nat) : (l.drop a).getD k 0 = l.getD (a + k) 0 := by simp [List.getD]
theorem run_step {x : Str} {a p f : Int} (ha : 0 ≤ a) (hap : a ≤ p) (hd : (dsOf x a).length ≤ 6) (h : RunInv x a p f) (h1 : p < (x.length : Int)) (hl : ¬ (Txt.item x p).cps.toList < (Str.ofString "0").cps.toList) (hh : ¬ (Str.ofString "9").cps.toList < (Txt.item x p).cps.toList) :
    a ≤ p + 1 ∧ p + 1 ≤ (x.length : Int) ∧ 0 ≤ 10 * f + (((Txt.item x p).cps.getD 0 0 : Nat) : Int) - 48 ∧ 10 * f + (((Txt.item x p).cps.getD 0 0 : Nat) : Int) - 48 ≤ 999999 ∧ RunInv x a (p + 1) (10 * f + (((Txt.item x p).cps.getD 0 0 : Nat) : Int) - 48) := by
  have hdig := dig_of (by omega) h1 hl hh
  have hI : RunInv x a (p + 1) (10 * f + (((Txt.item x p).cps.getD 0 0 : Nat) : Int) - 48) := by
    obtain ⟨k, e, hk, rfl⟩ := h
    have ep : p.toNat = a.toNat + k := by omega
    have hlen := cd_len x
    have := tw_more ((cd x).drop a.toNat) k hk (by rw [List.length_drop]; omega) (by rw [getD_drop, ← ep]; exact hdig)
    refine ⟨k + 1, by lia, this.1, ?_⟩
    rw [take_at _ _ this.1, val_snoc, this.2, getD_drop, ← ep, item_at x p (by lia) h1]
    rfl
  have hb := run_bound hd hI
  exact ⟨by omega, by omega, hb.1, hb.2, hI⟩
theorem run_done {x : Str} {a p f : Int} (ha : 0 ≤ a) (hap : a ≤ p) (h : RunInv x a p f) (hs : p < (x.length : Int) → isDig ((cd x).getD p.toNat 0) = false) :
    f = valOf (dsOf x a) ∧ p - a = ((dsOf x a).length : Int) ∧ p = a + ((dsOf x a).length : Int) := by
  obtain ⟨k, e, hk, rfl⟩ := h
  have ep : p.toNat = a.toNat + k := by omega
  have hlen := cd_len x
  have := tw_stop ((cd x).drop a.toNat) k hk (fun h => by rw [getD_drop, ← ep]; exact hs (by rw [List.length_drop] at h; omega))
  have e2 : k = (dsOf x a).length := this
  rw [e2, List.take_length]
  exact ⟨rfl, by omega, by omega⟩
noncomputable abbrev RetT3 (news : List (Addr × Obj)) (a b c : Int) : Ends := fun _ _ h₀ L m s Q _ =>
  ∀ (D : Addr) (ta tb tc : Tok) (h' : Heap) (tk' : Nat), Fr h₀ L h' m → News h₀ L h' ((D, ({ cls := .type "tuple", data := .seq #[.int a ta, .int b tb, .int c tc] } : Obj)) :: news) → Q (.ref D) { s with heap := h', toks := tk' }
noncomputable abbrev RunEnd (x : Str) (a p f : Int) : Prop := f = valOf (dsOf x a) ∧ p - a = ((dsOf x a).length : Int) ∧ p = a + ((dsOf x a).length : Int)
theorem run_end_l {x : Str} {a p f : Int} (ha : 0 ≤ a) (h : RunInv x a p f) (hap : a ≤ p) (h1 : p < (x.length : Int)) (hl : (Txt.item x p).cps.toList < (Str.ofString "0").cps.toList) : RunEnd x a p f := run_done ha hap h fun _ => nodig_l (by omega) h1 hl
theorem run_end_h {x : Str} {a p f : Int} (ha : 0 ≤ a) (h : RunInv x a p f) (hap : a ≤ p) (h1 : p < (x.length : Int)) (hl : (Str.ofString "9").cps.toList < (Txt.item x p).cps.toList) : RunEnd x a p f := run_done ha hap h fun _ => nodig_h (by omega) h1 hl
theorem run_end_n {x : Str} {a p f : Int} (ha : 0 ≤ a) (h : RunInv x a p f) (hap : a ≤ p) (h1 : ¬ p < (x.length : Int)) : RunEnd x a p f := run_done ha hap h fun h => absurd h h1
theorem news_skip {h₀ h : Heap} {L : Addr} {p q : Addr × Obj} {news : List (Addr × Obj)} (N : News h₀ L h (p :: q :: news)) : News h₀ L h (p :: news) := kst_newsOf N fun r hr => by
  rcases List.mem_cons.mp hr with e | hr
  · rw [e]; exact .head _
  · exact tl2 hr
noncomputable abbrev RetE (news : List (Addr × Obj)) (a b : Int) : Ends := fun _ _ h₀ L m s Q _ =>
  ∀ (D : Addr) (ta tb : Tok) (h' : Heap) (tk' : Nat), Fr h₀ L h' m → News h₀ L h' ((D, ({ cls := .type "tuple", data := .seq #[.int a ta, .int b tb] } : Obj)) :: news) → Q (.ref D) { s with heap := h', toks := tk' }
end Mine
end
section
namespace Mine
theorem OT21.gdT21 : True := trivial
open OT21
theorem wd_T21_1 : True := by (k_with "execs cons" => (k_here; (with_reducible show wpAny _ _ (execs (_ :: _) _) _ _ _); (try k_made); (with_reducible rename News _ _ _ _ => kNq); (refine execsZg kNq ?_); intro _ _ _ _; (clear kNq))); (k_with "execs cons" => (k_here; (with_reducible show wpAny _ _ (execs (_ :: _) _) _ _ _); (fail_if_success (with_reducible refine gGq GI.z ?_)); (try k_made); k_dflt (refine' withG ?_ ?_ ?_ ?_; rotate_right 4; (k_asm); (k_asm); (rfl); k_whole); intro _ _ _ gGq)); (k_with "storeName" => (k_here; (first | ((with_reducible refine' gGq GI.p ?_ ?_ ?_ ?_; rotate_right 4)) | ((with_reducible refine' gGq GI.r ?_ ?_ ?_ ?_; rotate_right 4))); k_dflt ((rotate_left 2; (kernel_rfl!); rotate_right 2); (k_asm); (k_asm); k_whole; intro _ _ _; (try k_sweep)))); trivial
theorem wd_T21_2 : True := by (k_with "subscriptTail" => ((fail_if_success (fail_if_success (have : True := gdT21))); ((k_here; (with_reducible show wpAny _ _ (subscriptTail _ _ (Value.str _ _) (Value.int _ _)) _ _ _); k_dflt (refine' item_str ?_ ?_ ?_ ?_; rotate_right 4; (focus ((exact fitsSsize_of (N := 9223372036854775808) (by omega) (by omega) (Int.le_refl _)); done)); (omega); (omega)); intro _)))); (k_with "subscriptTail Name Call str int" => ((fail_if_success (fail_if_success (have : True := gdT21))); ((k_here; (with_reducible show wpAny _ _ (subscriptTail _ _ (Value.str _ _) (Value.int _ _)) _ _ _); k_dflt (refine' item_str ?_ ?_ ?_ ?_; rotate_right 4; (focus ((exact fitsSsize_of (N := 9223372036854775808) (by omega) (by omega) (Int.le_refl _)); done)); (omega); (omega)); intro _)))); (k_with "exec While BoolOp" => ((fail_if_success (fail_if_success (have : True := gdT21))); ((refine Stop.go ?_)))); (k_with "exec While BoolOp cons nil" => ((fail_if_success (fail_if_success (have : True := gdT21))); ((refine Stop.go ?_)))); (k_with "exec While BoolOp cons cons" => ((fail_if_success (fail_if_success (have : True := gdT21))); ((refine Stop.go ?_)))); (k_with "state" => (first | exact ⟨by omega, by omega, by omega, by omega, run_init⟩ | (rename RunInv _ _ _ _ => hR; exact run_step (by omega) (by omega) (by assumption) hR (by assumption) (by assumption) (by assumption)))); trivial
theorem c_run {w : World} {mean : ExcName → Option Value} {mg mb : Str → Option Value} {news : List (Addr × Obj)} {x : Str} {i : Int} {t u : Tok} : Ct w mean mg mb 115 20 (news) (0 ≤ i ∧ i ≤ (x.length : Int) ∧ x.length ≤ 100 ∧ (dsOf x i).length ≤ 6) [.str x t, .int i u] (RetT3 news (valOf (dsOf x i)) ((dsOf x i).length : Int) (i + ((dsOf x i).length : Int))) := by
  refine shed ?_ fun _ n h => ?_
  focus (
  intro dp un gd cn cs a ccd cl outer A₀ base h₀ L m s Q E B F X N T hk hpre hd hu hret
  first | (refine and4 hpre ?_; clear hpre; intro ha0 ha1 hx hd6) | obtain ⟨ha0, ha1, hx, hd6⟩ := hpre
  dsimp only [RetT3] at hret
  k_extra "enter"
  k_steps
  all_goals (try (k_extra "So"; k_here; (k_while (fun _ p f => i ≤ p ∧ p ≤ (x.length : Int) ∧ 0 ≤ f ∧ f ≤ 999999 ∧ RunInv x i p f) (fun _ p f => (x.length - p).toNat) "at" "found"); all_goals k_steps))
  all_goals (
    (rename RunInv _ _ _ _ => hR)
    (obtain ⟨e1, e2, e3⟩ := (by first | exact run_end_l ha0 hR (by assumption) (by assumption) (by assumption) | exact run_end_h ha0 hR (by assumption) (by assumption) (by assumption) | exact run_end_n ha0 hR (by assumption) (by assumption) : RunEnd x i _ _))
    rw [← e3, ← e2, ← e1] at hret
    exact hret _ _ _ _ _ _ (by k_asm) (news_skip (by k_asm)))
  )
  simpa using pick n 5 h
end Mine
end
section
namespace Mine
theorem OT19.gdT19 : True := trivial
open OT19
noncomputable abbrev FB (m b : Int) : Prop := (m = 1 ∧ b = 10) ∨ (m = 2 ∧ b = 100) ∨ (m = 3 ∧ b = 1000) ∨ (m = 4 ∧ b = 10000) ∨ (m = 5 ∧ b = 100000)
theorem fb_init : FB 1 10 := .inl ⟨rfl, rfl⟩
theorem fb_step {m b n : Int} (h : FB m b) (hb : b ≤ n) (hn : n ≤ 65535) : FB (m + 1) (b * 10) := by
  rcases h with ⟨rfl, rfl⟩ | ⟨rfl, rfl⟩ | ⟨rfl, rfl⟩ | ⟨rfl, rfl⟩ | ⟨rfl, rfl⟩
  · exact .inr (.inl ⟨rfl, rfl⟩)
  · exact .inr (.inr (.inl ⟨rfl, rfl⟩))
  · exact .inr (.inr (.inr (.inl ⟨rfl, rfl⟩)))
  · exact .inr (.inr (.inr (.inr ⟨rfl, rfl⟩)))
  · exact absurd (Int.le_trans hb hn) (by decide)
theorem fb_less {m b : Int} (h : FB m b) : (10 - (m + 1)).toNat < (10 - m).toNat := by
  rcases h with ⟨rfl, _⟩ | ⟨rfl, _⟩ | ⟨rfl, _⟩ | ⟨rfl, _⟩ | ⟨rfl, _⟩ <;> decide
theorem wd_T19_12 : True := by (k_with "state" => (first | exact fb_init | exact fb_step (by assumption) (by assumption) (by assumption) | omega)); (k_with "measure" => (exact fb_less (by assumption))); (k_with "exec While Compare" => ((fail_if_success (fail_if_success (have : True := gdT19))); ((refine Stop.go ?_)))); (k_with "exec While Compare cons cons" => ((fail_if_success (fail_if_success (have : True := gdT19))); ((refine Stop.go ?_)))); (k_with "exec While Compare cons nil" => ((fail_if_success (fail_if_success (have : True := gdT19))); ((refine Stop.go ?_)))); trivial
theorem c_figof {w : World} {mean : ExcName → Option Value} {mg mb : Str → Option Value} {news : List (Addr × Obj)} {n : Int} {t : Tok} : Ct w mean mg mb 44 20 (news) (0 ≤ n ∧ n ≤ 65535) [.int n t] (RetB news 1 5) := by
  refine shed ?_ fun _ n h => ?_
  focus (
  intro dp un gd cn cs a ccd cl outer A₀ base h₀ L m s Q E B F X N T hk hpre hd hu hret
  first | (refine and2 hpre ?_; clear hpre; intro hk0 hk1) | obtain ⟨hk0, hk1⟩ := hpre
  dsimp only [RetB] at hret
  k_extra "enter"
  k_steps
  all_goals (try (k_extra "So"; k_here; (k_while (fun _ m b => (m = 1 ∧ b = 10) ∨ (m = 2 ∧ b = 100) ∨ (m = 3 ∧ b = 1000) ∨ (m = 4 ∧ b = 10000) ∨ (m = 5 ∧ b = 100000)) (fun _ m b => (10 - m).toNat) "many" "bound"); all_goals k_steps))
  all_goals first
    | ((rename Fr h₀ _ _ _ => fE); (rename News h₀ _ _ _ => nE); exact hret _ _ _ _ (by omega) (by omega) fE (kst_newsOf nE (fun _ hp => .tail _ hp)))
  )
  simpa using pick n 5 h
end Mine
end
section
namespace Mine
theorem OT20.gdT20 : True := trivial
open OT20
theorem wd_T20_1 : True := by (k_with "execs cons" => (k_here; (with_reducible show wpAny _ _ (execs (_ :: _) _) _ _ _); (try k_made); (refine execsYg ?_); intro _ _)); (k_with "execs cons" => (k_here; (with_reducible show wpAny _ _ (execs (_ :: _) _) _ _ _); (fail_if_success (with_reducible refine gGq GI.z ?_)); (try k_made); k_dflt (refine' withG ?_ ?_ ?_ ?_; rotate_right 4; (k_asm); (k_asm); (rfl); k_whole); intro _ _ _ gGq)); trivial
theorem wd_T20_2 : True := by (k_with "exec While Compare" => ((fail_if_success (fail_if_success (have : True := gdT20))); ((refine Stop.go ?_)))); (k_with "exec While Compare cons cons" => ((fail_if_success (fail_if_success (have : True := gdT20))); ((refine Stop.go ?_)))); (k_with "exec While Compare cons nil" => ((fail_if_success (fail_if_success (have : True := gdT20))); ((refine Stop.go ?_)))); (k_with "state" => (first | exact ⟨by omega, by omega, by omega, by omega, made_init⟩ | exact made_step (by assumption) (by assumption) (by assumption) (by assumption) (by assumption) (by omega) (by assumption))); (k_with "measure" => (exact made_less (by assumption))); (k_with "call ref" => ((k_here; (with_reducible show wpAny _ _ (call (Value.ref 44) [_]) _ _ _); k_dflt (refine' c_figof _ _ _ _ _ _ _ _ _ _ _ _ _ _ _ _ _ ?_ ?_ ?_ ?_ ?_ ?_ ⟨?_, ?_⟩ ?_ ?_ ?_; rotate_right 11; (rotate_left 3; (k_asm); rotate_right 3); (rotate_left 5; (omega); rotate_right 5); (rotate_left 5; (omega); rotate_right 5); (rotate_left 1; (k_asm); rotate_right 1); (k_asm); (k_asm); (k_asm); (exact rfl); (ktr_room); (ktr_units)); intro kD tD hD tkD loD hiD fD nD; (try dsimp only)))); trivial
theorem c_made {w : World} {mean : ExcName → Option Value} {mg mb : Str → Option Value} {news : List (Addr × Obj)} {n : Int} {t u v : Tok} : Ct w mean mg mb 58 30 (news) (-65535 ≤ n ∧ n ≤ 65535 ∧ n ≠ 0) [.int n t, .int 0 u, .int 6 v] (RetT news (PairOf n)) := by
  refine shed ?_ fun _ n h => ?_
  focus (
  intro dp un gd cn cs a ccd cl outer A₀ base h₀ L m s Q E B F X N T hk hpre hd hu hret
  first | (refine and3 hpre ?_; clear hpre; intro hk0 hk1 hk2) | obtain ⟨hk0, hk1, hk2⟩ := hpre
  dsimp only [RetT] at hret
  k_extra "enter"
  k_steps
  all_goals (try (k_extra "So"; k_here; (k_while (fun _ k e => 1 ≤ k ∧ k ≤ 65535 ∧ 0 ≤ e ∧ e ≤ 10 ∧ MadeInv (if n < 0 then -n else n) k e) (fun _ k e => k.toNat) "size" "exponent"); all_goals k_steps))
  all_goals first
    | (rename MadeInv _ _ _ => hM; exact hret _ _ _ _ _ _ _ (made_neg (by assumption) (by assumption) (by assumption) (by assumption) hM (by assumption)) (by k_asm) (by k_asm))
    | (rename MadeInv _ _ _ => hM; exact hret _ _ _ _ _ _ _ (made_pos (by assumption) (by assumption) (by assumption) (by assumption) hM (by assumption)) (by k_asm) (by k_asm))
    | (exfalso; rename (if n < 0 then -n else n) = 0 => hz; split at hz <;> omega)
  )
  simpa using pick n 5 h
end Mine
end
section
namespace Mine
theorem wd_T22_1 : True := by (k_with "storeName" => (k_here; (first | ((with_reducible refine' gGq GI.s ?_ ?_ ?_ ?_; rotate_right 4)) | ((with_reducible refine' gGq GI.u ?_ ?_ ?_ ?_; rotate_right 4))); k_dflt ((rotate_left 2; (kernel_rfl!); rotate_right 2); (k_asm); (k_asm); k_whole; intro _ _ _ _ _; (try k_sweep)))); trivial
theorem wd_T22_2 : True := by (k_with "call ref" => (first | ((k_here; (with_reducible show wpAny _ _ (call (Value.ref 44) [_]) _ _ _); k_dflt (refine' c_figof _ _ _ _ _ _ _ _ _ _ _ _ _ _ _ _ _ ?_ ?_ ?_ ?_ ?_ ?_ ⟨?_, ?_⟩ ?_ ?_ ?_; rotate_right 11; (rotate_left 3; (k_asm); rotate_right 3); (rotate_left 5; (omega); rotate_right 5); (rotate_left 5; (omega); rotate_right 5); (rotate_left 1; (k_asm); rotate_right 1); (k_asm); (k_asm); (k_asm); (exact rfl); (ktr_room); (ktr_units)); intro kD tD hD tkD loD hiD fD nD; (try dsimp only))) | ((k_here; (with_reducible show wpAny _ _ (call (Value.ref 58) [_, _, _]) _ _ _); k_dflt (refine' c_made _ _ _ _ _ _ _ _ _ _ _ _ _ _ _ _ _ ?_ ?_ ?_ ?_ ?_ ?_ ⟨?_, ?_, ?_⟩ ?_ ?_ ?_; rotate_right 12; (rotate_left 3; (k_asm); rotate_right 3); (rotate_left 5; (omega); rotate_right 5); (rotate_left 5; (omega); rotate_right 5); (rotate_left 5; (omega); rotate_right 5); (rotate_left 1; (k_asm); rotate_right 1); (k_asm); (k_asm); (k_asm); (exact rfl); (ktr_room); (ktr_units)); intro DD aD bD taD tbD hD tkD pD fD nD; (try dsimp only))))); trivial
theorem c_told {w : World} {mean : ExcName → Option Value} {mg mb : Str → Option Value} {news : List (Addr × Obj)} {n : Int} {t u v : Tok} : Ct w mean mg mb 136 35 (news) (-65535 ≤ n ∧ n ≤ 65535 ∧ n ≠ 0) [.int n t, .int 0 u, .int 6 v] (RetT news (PairOf n)) := by
  refine shed ?_ fun _ n h => ?_
  focus (
  intro dp un gd cn cs a ccd cl outer A₀ base h₀ L m s Q E B F X N T hk hpre hd hu hret
  first | (refine and3 hpre ?_; clear hpre; intro hk0 hk1 hk2) | obtain ⟨hk0, hk1, hk2⟩ := hpre
  dsimp only [RetT] at hret
  k_extra "enter"
  k_steps
  all_goals first
    | exact hret _ _ _ _ _ _ _ (by assumption) (by k_asm) (by k_asm)
    | (exfalso; omega)
  )
  simpa using pick n 5 h
theorem c_told0 {w : World} {mean : ExcName → Option Value} {mg mb : Str → Option Value} {news : List (Addr × Obj)} {n : Int} {t u v : Tok} : Ct w mean mg mb 136 35 (news) (n = 0) [.int n t, .int 0 u, .int 6 v] (RetV news (fun _ => .ref 73)) := by
  refine shed ?_ fun _ n h => ?_
  focus (
  intro dp un gd cn cs a ccd cl outer A₀ base h₀ L m s Q E B F X N T hk hpre hd hu hret
  subst hpre
  dsimp only [RetV] at hret
  k_extra "enter"
  k_steps
  all_goals exact hret 0 _ _ (by k_asm) (by k_asm)
  )
  simpa using pick n 5 h
theorem c_exp {w : World} {mean : ExcName → Option Value} {mg mb : Str → Option Value} {news : List (Addr × Obj)} {x : Str} {p : Int} {t u : Tok} : Ct w mean mg mb 122 35 (news) (0 ≤ p ∧ p ≤ (x.length : Int) ∧ x.length ≤ 100 ∧ (p < (x.length : Int) → occ (Str.ofString "EeDd") (Txt.item x p) = true)) [.str x t, .int p u] (RetE news 0 p) := by
  refine shed ?_ fun _ n h => ?_
  focus (
  intro dp un gd cn cs a ccd cl outer A₀ base h₀ L m s Q E B F X N T hk hpre hd hu hret
  first | (refine and4 hpre ?_; clear hpre; intro hp0 hp1 hx hE) | obtain ⟨hp0, hp1, hx, hE⟩ := hpre
  dsimp only [RetE] at hret
  have hE2 : ¬ p < (x.length : Int) ∨ (p < (x.length : Int) ∧ (Builtin.Str.occurrences (Str.ofString "EeDd") (Txt.item x p) 0 (Str.ofString "EeDd").length 1).isEmpty = true) := by
    by_cases h : p < (x.length : Int)
    · exact .inr ⟨h, hE h⟩
    · exact .inl h
  clear hE
  rcases hE2 with hE2 | ⟨hE2, hE3⟩
  all_goals (refine wpAny_call ?_; k_dflt cell_enter; k_steps)
  all_goals exact hret _ _ _ _ _ (by k_asm) (by k_asm)
  )
  simpa using pick n 5 h
end Mine
end
section
open PySem.Spec
namespace Mine
noncomputable def nb (x : Str) : Int := (((cd x).takeWhile blank).length : Int)
noncomputable def BlkInv (x : Str) (p : Int) : Prop := p.toNat ≤ ((cd x).takeWhile blank).length
theorem nb_bound (x : Str) : 0 ≤ nb x ∧ nb x ≤ (x.length : Int) := by
  have h : ((cd x).takeWhile blank).length ≤ (cd x).length := (List.takeWhile_sublist _).length_le
  rw [cd_len] at h
  unfold nb
  omega
theorem blk_init (x : Str) : (0 : Int) ≤ 0 ∧ (0 : Int) ≤ (x.length : Int) ∧ BlkInv x 0 := ⟨by decide, by omega, Nat.zero_le _⟩
theorem blk_step {x : Str} {p : Int} (h0 : 0 ≤ p) (hB : BlkInv x p) (h1 : p < (x.length : Int)) (h : occ (Str.ofString " \t") (Txt.item x p) = false) : 0 ≤ p + 1 ∧ p + 1 ≤ (x.length : Int) ∧ BlkInv x (p + 1) := by
  have hb : blank ((cd x).getD p.toNat 0) = true := by
    rw [occ_blank x p h0 h1] at h
    simpa using h
  have := tw_more (cd x) p.toNat hB (by rw [cd_len]; omega) hb
  refine ⟨by omega, by omega, ?_⟩
  unfold BlkInv
  omega
theorem blk_stop {x : Str} {p : Int} (h0 : 0 ≤ p) (hB : BlkInv x p) (h1 : p < (x.length : Int)) (h : occ (Str.ofString " \t") (Txt.item x p) = true) : p = nb x := by
  have hb : blank ((cd x).getD p.toNat 0) = false := by
    rw [occ_blank x p h0 h1] at h
    simpa using h
  have := tw_stop (cd x) p.toNat hB (fun _ => hb)
  unfold nb
  omega
theorem blk_over {x : Str} {p : Int} (h0 : 0 ≤ p) (hB : BlkInv x p) (h1 : ¬ p < (x.length : Int)) : p = nb x := by
  have := tw_stop (cd x) p.toNat hB (fun h => absurd h (by rw [cd_len]; omega))
  unfold nb
  omega
theorem any_neg {y : Str} (h : (y == Str.ofString "-") = true) : ([Str.ofString "+", Str.ofString "-"].any fun z => z == y) = true := by
  have : y = Str.ofString "-" := by simpa using h
  subst this
  rfl
theorem any_pos {y : Str} (h : (y == Str.ofString "-") = false ∧ (y == Str.ofString "+") = false) : ([Str.ofString "+", Str.ofString "-"].any fun z => z == y) = false := by
  first | (refine and2 h ?_; clear h; intro h1 h2) | obtain ⟨h1, h2⟩ := h
  have e1 : (Str.ofString "-" == y) = false := by
    rw [beq_eq_false_iff_ne] at h1 ⊢
    exact Ne.symm h1
  have e2 : (Str.ofString "+" == y) = false := by
    rw [beq_eq_false_iff_ne] at h2 ⊢
    exact Ne.symm h2
  simp only [List.any_cons, List.any_nil, e1, e2, Bool.or_false]
noncomputable abbrev RetD (news : List (Addr × Obj)) (P : Int → Int → Prop) (e : Int) : Ends := fun _ _ h₀ L m s Q _ =>
  ∀ (D2 D : Addr) (a b : Int) (ta tb te : Tok) (h' : Heap) (tk' : Nat), P a b → Fr h₀ L h' m → News h₀ L h' ((D2, ({ cls := .type "tuple", data := .seq #[.ref D, .int e te] } : Obj)) :: (D, ({ cls := .type "tuple", data := .seq #[.int a ta, .int b tb] } : Obj)) :: news) → Q (.ref D2) { s with heap := h', toks := tk' }
theorem news_pick {h₀ h : Heap} {L : Addr} {p q : Addr × Obj} {big news : List (Addr × Obj)} (N : News h₀ L h big) (hp : p ∈ big) (hq : q ∈ big) (hn : ∀ r ∈ news, r ∈ big) : News h₀ L h (p :: q :: news) := kst_newsOf N fun r hr => by
  rcases List.mem_cons.mp hr with e | hr
  · rw [e]; exact hp
  · rcases List.mem_cons.mp hr with e | hr
    · rw [e]; exact hq
    · exact hn r hr
noncomputable abbrev RetZ (news : List (Addr × Obj)) (e : Int) : Ends := fun _ _ h₀ L m s Q _ =>
  ∀ (D2 : Addr) (te : Tok) (h' : Heap) (tk' : Nat), Fr h₀ L h' m → News h₀ L h' ((D2, ({ cls := .type "tuple", data := .seq #[.ref 73, .int e te] } : Obj)) :: news) → Q (.ref D2) { s with heap := h', toks := tk' }
end Mine
end
section
namespace Mine
theorem OT23.gdT23 : True := trivial
open OT23
theorem wd_T23_1 : True := by (k_with "execs cons" => (k_here; (with_reducible show wpAny _ _ (execs (_ :: _) _) _ _ _); (try k_made); (with_reducible rename News _ _ _ _ => kNq); (refine execsZg kNq ?_); intro _ _ _ _; (clear kNq))); (k_with "execs cons" => (k_here; (with_reducible show wpAny _ _ (execs (_ :: _) _) _ _ _); (fail_if_success (with_reducible refine gGq GI.z ?_)); (try k_made); k_dflt (refine' withG ?_ ?_ ?_ ?_; rotate_right 4; (k_asm); (k_asm); (rfl); k_whole); intro _ _ _ gGq)); (k_with "storeName" => (k_here; (first | ((with_reducible refine' gGq GI.p ?_ ?_ ?_ ?_; rotate_right 4)) | ((with_reducible refine' gGq GI.r ?_ ?_ ?_ ?_; rotate_right 4))); k_dflt ((rotate_left 2; (kernel_rfl!); rotate_right 2); (k_asm); (k_asm); k_whole; intro _ _ _; (try k_sweep)))); trivial
theorem wd_T23_2 : True := by (k_with "subscriptTail" => ((fail_if_success (fail_if_success (have : True := gdT23))); ((k_here; (with_reducible show wpAny _ _ (subscriptTail _ _ (Value.str _ _) (Value.int _ _)) _ _ _); k_dflt (refine' item_str ?_ ?_ ?_ ?_; rotate_right 4; (focus ((exact fitsSsize_of (N := 9223372036854775808) (by omega) (by omega) (Int.le_refl _)); done)); (omega); (omega)); intro _)))); (k_with "subscriptTail Name Call str int" => ((fail_if_success (fail_if_success (have : True := gdT23))); ((k_here; (with_reducible show wpAny _ _ (subscriptTail _ _ (Value.str _ _) (Value.int _ _)) _ _ _); k_dflt (refine' item_str ?_ ?_ ?_ ?_; rotate_right 4; (focus ((exact fitsSsize_of (N := 9223372036854775808) (by omega) (by omega) (Int.le_refl _)); done)); (omega); (omega)); intro _)))); (k_with "call ref" => (first | ((k_here; (with_reducible show wpAny _ _ (call (Value.ref 115) [_, _]) _ _ _); k_dflt (refine' c_run _ _ _ _ _ _ _ _ _ _ _ _ _ _ _ _ _ ?_ ?_ ?_ ?_ ?_ ?_ ⟨?_, ?_, ?_, ?_⟩ ?_ ?_ ?_; rotate_right 13; (rotate_left 3; (k_asm); rotate_right 3); (rotate_left 5; (omega); rotate_right 5); (rotate_left 5; (omega); rotate_right 5); (rotate_left 5; (omega); rotate_right 5); (rotate_left 5; (assumption); rotate_right 5); (rotate_left 1; (k_asm); rotate_right 1); (k_asm); (k_asm); (k_asm); (exact rfl); (ktr_room); (ktr_units)); intro DD taD tbD tcD hD tkD fD nD; (try dsimp only))) | ((k_here; (with_reducible show wpAny _ _ (call (Value.ref 122) [_, _]) _ _ _); k_dflt (refine' c_exp _ _ _ _ _ _ _ _ _ _ _ _ _ _ _ _ _ ?_ ?_ ?_ ?_ ?_ ?_ ⟨?_, ?_, ?_, ?_⟩ ?_ ?_ ?_; rotate_right 13; (rotate_left 3; (k_asm); rotate_right 3); (rotate_left 5; (omega); rotate_right 5); (rotate_left 5; (omega); rotate_right 5); (rotate_left 5; (omega); rotate_right 5); (rotate_left 5; (assumption); rotate_right 5); (rotate_left 1; (k_asm); rotate_right 1); (k_asm); (k_asm); (k_asm); (exact rfl); (ktr_room); (ktr_units)); intro DD taD tbD hD tkD fD nD; (try dsimp only))) | ((k_here; (with_reducible show wpAny _ _ (call (Value.ref 136) [_, _, _]) _ _ _); k_dflt (refine' c_told _ _ _ _ _ _ _ _ _ _ _ _ _ _ _ _ _ ?_ ?_ ?_ ?_ ?_ ?_ ⟨?_, ?_, ?_⟩ ?_ ?_ ?_; rotate_right 12; (rotate_left 3; (k_asm); rotate_right 3); (rotate_left 5; (omega); rotate_right 5); (rotate_left 5; (omega); rotate_right 5); (rotate_left 5; (omega); rotate_right 5); (rotate_left 1; (k_asm); rotate_right 1); (k_asm); (k_asm); (k_asm); (exact rfl); (ktr_room); (ktr_units)); intro DD aD bD taD tbD hD tkD pD fD nD; (try dsimp only))))); (k_with "exec While BoolOp" => ((fail_if_success (fail_if_success (have : True := gdT23))); ((refine Stop.go ?_)))); (k_with "exec While BoolOp cons nil" => ((fail_if_success (fail_if_success (have : True := gdT23))); ((refine Stop.go ?_)))); (k_with "state" => (first | exact blk_init _ | (rename BlkInv _ _ => hB; exact blk_step (by assumption) hB (by assumption) (by assumption)))); (k_with "execs cons" => ((fail_if_success (fail_if_success (have : True := gdT23))); ((k_here; (with_reducible show wpAny _ _ (execs [Stmt.Assign _ _ _, Stmt.If _ _ _ _, _, _, _, _, _, _] _) _ _ _); refine Stop.go ?_)))); (k_with "execs cons Assign cons" => ((fail_if_success (fail_if_success (have : True := gdT23))); ((k_here; (with_reducible show wpAny _ _ (execs [Stmt.Assign _ _ _, Stmt.If _ _ _ _, _, _, _, _, _, _] _) _ _ _); refine Stop.go ?_)))); trivial
theorem c_dtext_neg {w : World} {mean : ExcName → Option Value} {mg mb : Str → Option Value} {news : List (Addr × Obj)} {x : Str} {n p1 p2 : Int} {t u : Tok} : Ct w mean mg mb 129 38 (news) (x.length ≤ 100 ∧ p1 = (nb x + 1) ∧ p1 ≤ (x.length : Int) ∧ p2 = p1 + ((dsOf x p1).length : Int) ∧ p2 ≤ (x.length : Int) ∧ 1 ≤ (dsOf x p1).length ∧ (dsOf x p1).length ≤ 6 ∧ valOf (dsOf x p1) = n ∧ 1 ≤ n ∧ n ≤ 65535 ∧ ((Txt.slice x (some p2) (some (p2 + 1)) == Str.ofString ".") = false) ∧ (p2 < (x.length : Int) → occ (Str.ofString "EeDd") (Txt.item x p2) = true) ∧ (Txt.slice x (some (nb x)) (some (nb x + 1)) == Str.ofString "-") = true) [.str x t, .int 6 u] (RetD news (PairOf (0 - n)) p2) := by
  refine shed ?_ fun _ n h => ?_
  focus (
  intro dp un gd cn cs a ccd cl outer A₀ base h₀ L m s Q E B F X N T hk hpre hd hu hret
  first | (refine and13 hpre ?_; clear hpre; intro hx hp1 hp1l hp2 hp2l hd1 hd6 hval hn1 hn2 hdot hexp hcond) | obtain ⟨hx, hp1, hp1l, hp2, hp2l, hd1, hd6, hval, hn1, hn2, hdot, hexp, hcond⟩ := hpre
  have hnb := nb_bound x
  have hany := any_neg hcond
  have hcq := hcond
  replace hk := hk; replace hd := hd; replace hu := hu
  dsimp only [RetD] at hret
  k_extra "enter"
  k_steps
  subst hp1 hp2 hval
  (with_reducible show Stop _)
  refine Stop.of ?_
  k_here
  k_while (fun _ p => 0 ≤ p ∧ p ≤ (x.length : Int) ∧ BlkInv x p) (fun _ p => (x.length - p).toNat) "at"
  k_steps
  all_goals (
    (with_reducible show Stop _)
    refine Stop.of ?_
    (rename BlkInv _ _ => hB)
    have e := (by first | exact blk_stop (by assumption) hB (by assumption) (by assumption) | exact blk_over (by assumption) hB (by assumption) : _ = nb x)
    subst e
    k_here
    refine wpAny_execs_cons ?_
    (try dsimp only)
    k_steps)
  all_goals first
    | (exfalso; omega)
    | ((rename PairOf _ _ _ => hPr); (rename News _ _ _ _ => nE); exact hret _ _ _ _ _ _ _ _ _ hPr (by k_asm) (news_pick nE (.head _) (by k_mem) (fun r hr => by first | exact tl2 hr | exact tl3 hr | exact tl4 hr | exact tl5 hr | exact tl6 hr  | exact tl7 hr)))
  )
  simpa using pick n 5 h
theorem c_dtext_pos {w : World} {mean : ExcName → Option Value} {mg mb : Str → Option Value} {news : List (Addr × Obj)} {x : Str} {n p1 p2 : Int} {t u : Tok} : Ct w mean mg mb 129 38 (news) (x.length ≤ 100 ∧ p1 = (nb x) ∧ p1 ≤ (x.length : Int) ∧ p2 = p1 + ((dsOf x p1).length : Int) ∧ p2 ≤ (x.length : Int) ∧ 1 ≤ (dsOf x p1).length ∧ (dsOf x p1).length ≤ 6 ∧ valOf (dsOf x p1) = n ∧ 1 ≤ n ∧ n ≤ 65535 ∧ ((Txt.slice x (some p2) (some (p2 + 1)) == Str.ofString ".") = false) ∧ (p2 < (x.length : Int) → occ (Str.ofString "EeDd") (Txt.item x p2) = true) ∧ (Txt.slice x (some (nb x)) (some (nb x + 1)) == Str.ofString "-") = false ∧ (Txt.slice x (some (nb x)) (some (nb x + 1)) == Str.ofString "+") = false) [.str x t, .int 6 u] (RetD news (PairOf n) p2) := by
  refine shed ?_ fun _ n h => ?_
  focus (
  intro dp un gd cn cs a ccd cl outer A₀ base h₀ L m s Q E B F X N T hk hpre hd hu hret
  first | (refine and13 hpre ?_; clear hpre; intro hx hp1 hp1l hp2 hp2l hd1 hd6 hval hn1 hn2 hdot hexp hcond) | obtain ⟨hx, hp1, hp1l, hp2, hp2l, hd1, hd6, hval, hn1, hn2, hdot, hexp, hcond⟩ := hpre
  have hnb := nb_bound x
  have hany := any_pos hcond
  first | (refine and2 hcond ?_; clear hcond; intro hcn hcp) | obtain ⟨hcn, hcp⟩ := hcond
  replace hk := hk; replace hd := hd; replace hu := hu
  dsimp only [RetD] at hret
  k_extra "enter"
  k_steps
  subst hp1 hp2 hval
  (with_reducible show Stop _)
  refine Stop.of ?_
  k_here
  k_while (fun _ p => 0 ≤ p ∧ p ≤ (x.length : Int) ∧ BlkInv x p) (fun _ p => (x.length - p).toNat) "at"
  k_steps
  all_goals (
    (with_reducible show Stop _)
    refine Stop.of ?_
    (rename BlkInv _ _ => hB)
    have e := (by first | exact blk_stop (by assumption) hB (by assumption) (by assumption) | exact blk_over (by assumption) hB (by assumption) : _ = nb x)
    subst e
    k_here
    refine wpAny_execs_cons ?_
    (try dsimp only)
    k_steps)
  all_goals first
    | (exfalso; omega)
    | ((rename PairOf _ _ _ => hPr); (rename News _ _ _ _ => nE); exact hret _ _ _ _ _ _ _ _ _ hPr (by k_asm) (news_pick nE (.head _) (by k_mem) (fun r hr => by first | exact tl2 hr | exact tl3 hr | exact tl4 hr | exact tl5 hr | exact tl6 hr  | exact tl7 hr)))
  )
  simpa using pick n 5 h
end Mine
end
section
namespace Mine
theorem OT24.gdT24 : True := trivial
open OT24
theorem wd_T24_1 : True := by (k_with "execs cons" => (k_here; (with_reducible show wpAny _ _ (execs (_ :: _) _) _ _ _); (try k_made); (with_reducible rename News _ _ _ _ => kNq); (refine execsZg kNq ?_); intro _ _ _ _; (clear kNq))); (k_with "execs cons" => (k_here; (with_reducible show wpAny _ _ (execs (_ :: _) _) _ _ _); (fail_if_success (with_reducible refine gGq GI.z ?_)); (try k_made); k_dflt (refine' withG ?_ ?_ ?_ ?_; rotate_right 4; (k_asm); (k_asm); (rfl); k_whole); intro _ _ _ gGq)); trivial
theorem wd_T24_2 : True := by (k_with "subscriptTail" => ((fail_if_success (fail_if_success (have : True := gdT24))); ((k_here; (with_reducible show wpAny _ _ (subscriptTail _ _ (Value.str _ _) (Value.int _ _)) _ _ _); k_dflt (refine' item_str ?_ ?_ ?_ ?_; rotate_right 4; (focus ((exact fitsSsize_of (N := 9223372036854775808) (by omega) (by omega) (Int.le_refl _)); done)); (omega); (omega)); intro _)))); (k_with "subscriptTail Name Call str int" => ((fail_if_success (fail_if_success (have : True := gdT24))); ((k_here; (with_reducible show wpAny _ _ (subscriptTail _ _ (Value.str _ _) (Value.int _ _)) _ _ _); k_dflt (refine' item_str ?_ ?_ ?_ ?_; rotate_right 4; (focus ((exact fitsSsize_of (N := 9223372036854775808) (by omega) (by omega) (Int.le_refl _)); done)); (omega); (omega)); intro _)))); (k_with "call ref" => (first | ((k_here; (with_reducible show wpAny _ _ (call (Value.ref 115) [_, _]) _ _ _); k_dflt (refine' c_run _ _ _ _ _ _ _ _ _ _ _ _ _ _ _ _ _ ?_ ?_ ?_ ?_ ?_ ?_ ⟨?_, ?_, ?_, ?_⟩ ?_ ?_ ?_; rotate_right 13; (rotate_left 3; (k_asm); rotate_right 3); (rotate_left 5; (omega); rotate_right 5); (rotate_left 5; (omega); rotate_right 5); (rotate_left 5; (omega); rotate_right 5); (rotate_left 5; (assumption); rotate_right 5); (rotate_left 1; (k_asm); rotate_right 1); (k_asm); (k_asm); (k_asm); (exact rfl); (ktr_room); (ktr_units)); intro DD taD tbD tcD hD tkD fD nD; (try dsimp only))) | ((k_here; (with_reducible show wpAny _ _ (call (Value.ref 122) [_, _]) _ _ _); k_dflt (refine' c_exp _ _ _ _ _ _ _ _ _ _ _ _ _ _ _ _ _ ?_ ?_ ?_ ?_ ?_ ?_ ⟨?_, ?_, ?_, ?_⟩ ?_ ?_ ?_; rotate_right 13; (rotate_left 3; (k_asm); rotate_right 3); (rotate_left 5; (omega); rotate_right 5); (rotate_left 5; (omega); rotate_right 5); (rotate_left 5; (omega); rotate_right 5); (rotate_left 5; (assumption); rotate_right 5); (rotate_left 1; (k_asm); rotate_right 1); (k_asm); (k_asm); (k_asm); (exact rfl); (ktr_room); (ktr_units)); intro DD taD tbD hD tkD fD nD; (try dsimp only))) | ((k_here; (with_reducible show wpAny _ _ (call (Value.ref 136) [_, _, _]) _ _ _); k_dflt (refine' c_told0 _ _ _ _ _ _ _ _ _ _ _ _ _ _ _ _ _ ?_ ?_ ?_ ?_ ?_ ?_ ?_ ?_ ?_ ?_; rotate_right 10; (rotate_left 3; (k_asm); rotate_right 3); (rotate_left 5; (omega); rotate_right 5); (rotate_left 1; (k_asm); rotate_right 1); (k_asm); (k_asm); (k_asm); (exact rfl); (ktr_room); (ktr_units)); intro tD hD tkD fD nD; (try dsimp only))))); (k_with "exec While BoolOp" => ((fail_if_success (fail_if_success (have : True := gdT24))); ((refine Stop.go ?_)))); (k_with "exec While BoolOp cons nil" => ((fail_if_success (fail_if_success (have : True := gdT24))); ((refine Stop.go ?_)))); (k_with "execs cons" => ((fail_if_success (fail_if_success (have : True := gdT24))); ((k_here; (with_reducible show wpAny _ _ (execs [Stmt.Assign _ _ _, Stmt.If _ _ _ _, _, _, _, _, _, _] _) _ _ _); refine Stop.go ?_)))); (k_with "execs cons Assign cons" => ((fail_if_success (fail_if_success (have : True := gdT24))); ((k_here; (with_reducible show wpAny _ _ (execs [Stmt.Assign _ _ _, Stmt.If _ _ _ _, _, _, _, _, _, _] _) _ _ _); refine Stop.go ?_)))); trivial
theorem c_dtext_zero {w : World} {mean : ExcName → Option Value} {mg mb : Str → Option Value} {news : List (Addr × Obj)} {x : Str} {n p1 p2 : Int} {t u : Tok} : Ct w mean mg mb 129 38 (news) (x.length ≤ 100 ∧ p1 = (nb x) ∧ p1 ≤ (x.length : Int) ∧ p2 = p1 + ((dsOf x p1).length : Int) ∧ p2 ≤ (x.length : Int) ∧ 1 ≤ (dsOf x p1).length ∧ (dsOf x p1).length ≤ 6 ∧ valOf (dsOf x p1) = n ∧ n = 0 ∧ ((Txt.slice x (some p2) (some (p2 + 1)) == Str.ofString ".") = false) ∧ (p2 < (x.length : Int) → occ (Str.ofString "EeDd") (Txt.item x p2) = true) ∧ (Txt.slice x (some (nb x)) (some (nb x + 1)) == Str.ofString "-") = false ∧ (Txt.slice x (some (nb x)) (some (nb x + 1)) == Str.ofString "+") = false) [.str x t, .int 6 u] (RetZ news p2) := by
  refine shed ?_ fun _ n h => ?_
  focus (
  intro dp un gd cn cs a ccd cl outer A₀ base h₀ L m s Q E B F X N T hk hpre hd hu hret
  first | (refine and12 hpre ?_; clear hpre; intro hx hp1 hp1l hp2 hp2l hd1 hd6 hval hn1 hdot hexp hcond) | obtain ⟨hx, hp1, hp1l, hp2, hp2l, hd1, hd6, hval, hn1, hdot, hexp, hcond⟩ := hpre
  have hnb := nb_bound x
  have hany := any_pos hcond
  first | (refine and2 hcond ?_; clear hcond; intro hcn hcp) | obtain ⟨hcn, hcp⟩ := hcond
  dsimp only [RetZ] at hret
  k_extra "enter"
  k_steps
  subst hp1 hp2 hval
  have hn2 : valOf (dsOf x (nb x)) = 0 := hn1
  (with_reducible show Stop _)
  refine Stop.of ?_
  k_here
  k_while (fun _ p => 0 ≤ p ∧ p ≤ (x.length : Int) ∧ BlkInv x p) (fun _ p => (x.length - p).toNat) "at"
  k_steps
  all_goals (
    (with_reducible show Stop _)
    refine Stop.of ?_
    (rename BlkInv _ _ => hB)
    have e := (by first | exact blk_stop (by assumption) hB (by assumption) (by assumption) | exact blk_over (by assumption) hB (by assumption) : _ = nb x)
    subst e
    k_here
    refine wpAny_execs_cons ?_
    (try dsimp only)
    k_steps)
  all_goals first
    | (exfalso; omega)
    | ((rename News _ _ _ _ => nE); exact hret _ _ _ _ (by k_asm) (kst_newsOf nE (fun r hr => by rcases List.mem_cons.mp hr with e | hr; (rw [e]; exact .head _); first | exact tl2 hr | exact tl3 hr | exact tl4 hr | exact tl5 hr | exact tl6 hr  | exact tl7 hr)))
  )
  simpa using pick n 5 h
end Mine
end
section
namespace Mine
theorem OT25.gdT25 : True := trivial
open OT25
theorem wd_T25_1 : True := by (k_with "execs cons" => (k_here; (with_reducible show wpAny _ _ (execs (_ :: _) _) _ _ _); (try k_made); (refine execsYg ?_); intro _ _)); (k_with "execs cons" => (k_here; (with_reducible show wpAny _ _ (execs (_ :: _) _) _ _ _); (fail_if_success (with_reducible refine gGq GI.z ?_)); (try k_made); k_dflt (refine' withG ?_ ?_ ?_ ?_; rotate_right 4; (k_asm); (k_asm); (rfl); k_whole); intro _ _ _ gGq)); (k_with "storeName" => (k_here; (first | ((with_reducible refine' gGq GI.s ?_ ?_ ?_ ?_; rotate_right 4)) | ((with_reducible refine' gGq GI.u ?_ ?_ ?_ ?_; rotate_right 4))); k_dflt ((rotate_left 2; (kernel_rfl!); rotate_right 2); (k_asm); (k_asm); k_whole; intro _ _ _ _ _; (try k_sweep)))); trivial
theorem wd_T25_2 : True := by (k_with "getAttr ref" => ((fail_if_success (fail_if_success (have : True := gdT25))); ((k_here; k_dflt (refine' get_own ?_ ?_ ?_ ?_ ?_ ?_ ?_ ?_ ?_ ?_; rotate_right 10; (k_asm); (k_asm); (focus ((k_inst); done)); (focus ((k_is); done)); (focus ((k_is); done)); (focus ((k_is); done)); (focus ((k_is); done)); (assumption); (focus ((k_handed); done)); k_whole))))); (k_with "call ref" => (first | ((k_here; (with_reducible show wpAny _ _ (call (Value.ref 129) [_, _]) _ _ _); k_dflt (refine' c_dtext_neg _ _ _ _ _ _ _ _ _ _ _ _ _ _ _ _ _ ?_ ?_ ?_ ?_ ?_ ?_ ?_ ?_ ?_ ?_; rotate_right 10; (rotate_left 3; (k_asm); rotate_right 3); (rotate_left 5; (assumption); rotate_right 5); (rotate_left 1; (k_asm); rotate_right 1); (k_asm); (k_asm); (k_asm); (exact rfl); (ktr_room); (ktr_units)); intro D2D DD aD bD taD tbD teD hD tkD pD fD nD; (try dsimp only))) | ((k_here; (with_reducible show wpAny _ _ (call (Value.ref 129) [_, _]) _ _ _); k_dflt (refine' c_dtext_pos _ _ _ _ _ _ _ _ _ _ _ _ _ _ _ _ _ ?_ ?_ ?_ ?_ ?_ ?_ ?_ ?_ ?_ ?_; rotate_right 10; (rotate_left 3; (k_asm); rotate_right 3); (rotate_left 5; (assumption); rotate_right 5); (rotate_left 1; (k_asm); rotate_right 1); (k_asm); (k_asm); (k_asm); (exact rfl); (ktr_room); (ktr_units)); intro D2D DD aD bD taD tbD teD hD tkD pD fD nD; (try dsimp only))) | ((k_here; (with_reducible show wpAny _ _ (call (Value.ref 129) [_, _]) _ _ _); k_dflt (refine' c_dtext_zero _ _ _ _ _ _ _ _ _ _ _ _ _ _ _ _ _ ?_ ?_ ?_ ?_ ?_ ?_ ?_ ?_ ?_ ?_; rotate_right 10; (rotate_left 3; (k_asm); rotate_right 3); (rotate_left 5; (assumption); rotate_right 5); (rotate_left 1; (k_asm); rotate_right 1); (k_asm); (k_asm); (k_asm); (exact rfl); (ktr_room); (ktr_units)); intro D2D teD hD tkD fD nD; (try dsimp only))))); trivial
theorem c_val_neg {w : World} {mean : ExcName → Option Value} {mg mb : Str → Option Value} {news : List (Addr × Obj)} {wd d la : Addr} {es : List DictEntry} {cap cc : Nat} {n p1 p2 : Int} {x : Str} {tb t : Tok} : Ct w mean mg mb 234 40 ((wd, W.instObj 372 d) :: (d, dictOf es cap) :: news) (getL "digits" es = some (some (.int 6 tb)) ∧ (la, W.listOf #[.str x t] cc) ∈ news ∧ (x.length ≤ 100 ∧ p1 = (nb x + 1) ∧ p1 ≤ (x.length : Int) ∧ p2 = p1 + ((dsOf x p1).length : Int) ∧ p2 ≤ (x.length : Int) ∧ 1 ≤ (dsOf x p1).length ∧ (dsOf x p1).length ≤ 6 ∧ valOf (dsOf x p1) = n ∧ 1 ≤ n ∧ n ≤ 65535 ∧ ((Txt.slice x (some p2) (some (p2 + 1)) == Str.ofString ".") = false) ∧ (p2 < (x.length : Int) → occ (Str.ofString "EeDd") (Txt.item x p2) = true) ∧ (Txt.slice x (some (nb x)) (some (nb x + 1)) == Str.ofString "-") = true)) [.ref wd, .ref la] (RetT ((wd, W.instObj 372 d) :: (d, dictOf es cap) :: news) (PairOf (0 - n))) := by
  refine shed ?_ fun _ n h => ?_
  focus (
  intro dp un gd cn cs a ccd cl outer A₀ base h₀ L m s Q E B F X N T hk hpre hd hu hret
  first | (refine and3 hpre ?_; clear hpre; intro hdig hm hb) | obtain ⟨hdig, hm, hb⟩ := hpre
  have hxl : x.length ≤ 100 := hb.1
  dsimp only [RetT, RetV] at hret
  replace N := news_cons N (tl2 hm)
  k_extra "enter"
  k_steps
  all_goals first
    | ((rename PairOf _ _ _ => hPr); (rename News _ _ _ _ => nE); exact hret _ _ _ _ _ _ _ hPr (by k_asm) (kst_newsOf nE (fun r hr => by rcases List.mem_cons.mp hr with e | hr; (rw [e]; k_mem); first | exact .tail _ hr | exact tl2 hr | exact tl3 hr | exact tl4 hr)))
  )
  simpa using pick n 5 h
theorem c_val_pos {w : World} {mean : ExcName → Option Value} {mg mb : Str → Option Value} {news : List (Addr × Obj)} {wd d la : Addr} {es : List DictEntry} {cap cc : Nat} {n p1 p2 : Int} {x : Str} {tb t : Tok} : Ct w mean mg mb 234 40 ((wd, W.instObj 372 d) :: (d, dictOf es cap) :: news) (getL "digits" es = some (some (.int 6 tb)) ∧ (la, W.listOf #[.str x t] cc) ∈ news ∧ (x.length ≤ 100 ∧ p1 = (nb x) ∧ p1 ≤ (x.length : Int) ∧ p2 = p1 + ((dsOf x p1).length : Int) ∧ p2 ≤ (x.length : Int) ∧ 1 ≤ (dsOf x p1).length ∧ (dsOf x p1).length ≤ 6 ∧ valOf (dsOf x p1) = n ∧ 1 ≤ n ∧ n ≤ 65535 ∧ ((Txt.slice x (some p2) (some (p2 + 1)) == Str.ofString ".") = false) ∧ (p2 < (x.length : Int) → occ (Str.ofString "EeDd") (Txt.item x p2) = true) ∧ (Txt.slice x (some (nb x)) (some (nb x + 1)) == Str.ofString "-") = false ∧ (Txt.slice x (some (nb x)) (some (nb x + 1)) == Str.ofString "+") = false)) [.ref wd, .ref la] (RetT ((wd, W.instObj 372 d) :: (d, dictOf es cap) :: news) (PairOf n)) := by
  refine shed ?_ fun _ n h => ?_
  focus (
  intro dp un gd cn cs a ccd cl outer A₀ base h₀ L m s Q E B F X N T hk hpre hd hu hret
  first | (refine and3 hpre ?_; clear hpre; intro hdig hm hb) | obtain ⟨hdig, hm, hb⟩ := hpre
  have hxl : x.length ≤ 100 := hb.1
  dsimp only [RetT, RetV] at hret
  replace N := news_cons N (tl2 hm)
  k_extra "enter"
  k_steps
  all_goals first
    | ((rename PairOf _ _ _ => hPr); (rename News _ _ _ _ => nE); exact hret _ _ _ _ _ _ _ hPr (by k_asm) (kst_newsOf nE (fun r hr => by rcases List.mem_cons.mp hr with e | hr; (rw [e]; k_mem); first | exact .tail _ hr | exact tl2 hr | exact tl3 hr | exact tl4 hr)))
  )
  simpa using pick n 5 h
theorem c_val_zero {w : World} {mean : ExcName → Option Value} {mg mb : Str → Option Value} {news : List (Addr × Obj)} {wd d la : Addr} {es : List DictEntry} {cap cc : Nat} {n p1 p2 : Int} {x : Str} {tb t : Tok} : Ct w mean mg mb 234 40 ((wd, W.instObj 372 d) :: (d, dictOf es cap) :: news) (getL "digits" es = some (some (.int 6 tb)) ∧ (la, W.listOf #[.str x t] cc) ∈ news ∧ (x.length ≤ 100 ∧ p1 = (nb x) ∧ p1 ≤ (x.length : Int) ∧ p2 = p1 + ((dsOf x p1).length : Int) ∧ p2 ≤ (x.length : Int) ∧ 1 ≤ (dsOf x p1).length ∧ (dsOf x p1).length ≤ 6 ∧ valOf (dsOf x p1) = n ∧ n = 0 ∧ ((Txt.slice x (some p2) (some (p2 + 1)) == Str.ofString ".") = false) ∧ (p2 < (x.length : Int) → occ (Str.ofString "EeDd") (Txt.item x p2) = true) ∧ (Txt.slice x (some (nb x)) (some (nb x + 1)) == Str.ofString "-") = false ∧ (Txt.slice x (some (nb x)) (some (nb x + 1)) == Str.ofString "+") = false)) [.ref wd, .ref la] (RetV ((wd, W.instObj 372 d) :: (d, dictOf es cap) :: news) (fun _ => .ref 73)) := by
  refine shed ?_ fun _ n h => ?_
  focus (
  intro dp un gd cn cs a ccd cl outer A₀ base h₀ L m s Q E B F X N T hk hpre hd hu hret
  first | (refine and3 hpre ?_; clear hpre; intro hdig hm hb) | obtain ⟨hdig, hm, hb⟩ := hpre
  have hxl : x.length ≤ 100 := hb.1
  dsimp only [RetT, RetV] at hret
  replace N := news_cons N (tl2 hm)
  k_extra "enter"
  k_steps
  all_goals first
    | ((rename News _ _ _ _ => nE); exact hret 0 _ _ (by k_asm) (kst_newsOf nE (fun r hr => by first | exact .tail _ hr | exact tl2 hr | exact tl3 hr | exact tl4 hr)))
  )
  simpa using pick n 5 h
theorem c_val_x1 {w : World} {mean : ExcName → Option Value} {mg mb : Str → Option Value} {news : List (Addr × Obj)} {wd d la : Addr} {es : List DictEntry} {cap cc : Nat}   {tb t : Tok} : Ct w mean mg mb 234 40 ((wd, W.instObj 372 d) :: (d, dictOf es cap) :: news) (getL "digits" es = some (some (.int 6 tb)) ∧ (la, W.listOf #[.str (Str.ofString "x1") t] cc) ∈ news) [.ref wd, .ref la] (RetT ((wd, W.instObj 372 d) :: (d, dictOf es cap) :: news) (fun a b => a = 0 ∧ b = 0)) := by
  refine shed ?_ fun _ n h => ?_
  focus (
  intro dp un gd cn cs a ccd cl outer A₀ base h₀ L m s Q E B F X N T hk hpre hd hu hret
  first | (refine and2 hpre ?_; clear hpre; intro hdig hm) | obtain ⟨hdig, hm⟩ := hpre
  have hlen : (Str.ofString "x1").length = 2 := rfl
  have hx0 : (Builtin.Str.occurrences (Str.ofString " 	") (Txt.item (Str.ofString "x1") 0) 0 (Str.ofString " 	").length 1).isEmpty = true := by decide +kernel
  dsimp only [RetT, RetV] at hret
  replace N := news_cons N (tl2 hm)
  k_extra "enter"
  k_steps
  all_goals first
    | (exfalso; omega)
    | exact absurd (hx0.symm.trans (by assumption : _ = false)) (by decide)
    | ((rename News _ _ _ _ => nE); exact hret _ _ _ _ _ _ _ ⟨rfl, rfl⟩ (by k_asm) (kst_newsOf nE (fun r hr => by rcases List.mem_cons.mp hr with e | hr; (rw [e]; exact .head _); first | exact .tail _ (hr) | exact tl2 hr | exact tl3 hr | exact tl4 hr | exact tl5 hr | exact tl6 hr | exact tl7 hr | exact tl8 hr)))
  )
  simpa using pick n 5 h
end Mine
end
section
namespace Mine
section
variable {prog : Program} {w : World} {A₀ A : Around} {s : Shared} {base h₀ g₀ : Heap} {outer : List Env} {L : Addr} {m : Str → Option Value} {env : Env} {news : List (Addr × Obj)} {K : Frag} {p : Program} {loose : List Str} {mean : ExcName → Option Value} {mg mb : Str → Option Value}
    {R : Result → Shared → Prop}
theorem mem_frames {b : Addr} (hf : env.frame = some L) (hm : b ∈ (env :: outer).filterMap (·.frame)) : b = L ∨ b ∈ outer.filterMap (·.frame) := by
  obtain ⟨env', he, hf'⟩ := List.mem_filterMap.mp hm
  rcases List.mem_cons.mp he with rfl | he
  · exact .inl (Option.some.inj (hf'.symm.trans hf))
  · exact .inr (List.mem_filterMap.mpr ⟨env', he, hf'⟩)
theorem groundE (B : Below A₀ base outer h₀) (F : Fr h₀ L s.heap m) (N : News h₀ L s.heap news) (hA : A.frames = some (env :: outer)) (hf : env.frame = some L) (hke : env.scope.kind = .function) :
    ∃ oL es ep, (hideAll s.heap (news.map (·.1))).get? L = some oL ∧ oL.data = .dict es ep ∧ (∀ h', h'.get? L = some oL → Heap.Ns h' L m) ∧ (∀ (sl : Array (Option Value)) h', h'.get? L = some { oL with slots := sl } → Heap.Ns h' L m) ∧
      h₀.StaysIn (hideAll s.heap (news.map (·.1))) ∧ Below A base (env :: outer) (hideAll s.heap (news.map (·.1))) := by
  obtain ⟨FG, BG, st, _⟩ := groundX (R := fun _ _ => True) B F N hA hf hke
  obtain ⟨oL, es, ep, hLg, hLd, hLk, hLf⟩ := FG.ns
  exact ⟨oL, es, ep, hLg, hLd, fun h' e => ⟨oL, es, ep, e, hLd, hLk, hLf⟩, fun sl h' e => ⟨_, es, ep, e, hLd, hLk, hLf⟩, st, BG⟩
theorem groundS0 (B : Below A₀ base [] h₀) (F : Fr h₀ L s.heap m) (N : News h₀ L s.heap news) (hA : A.frames = some [env]) (hf : env.frame = some L) (hke : env.scope.kind = .function) :
    Fr h₀ L (hideAll s.heap (news.map (·.1))) m ∧ Below A base [env] (hideAll s.heap (news.map (·.1))) ∧ h₀.StaysIn (hideAll s.heap (news.map (·.1))) ∧ KtsDicts ([env].filterMap (·.frame)) (hideAll s.heap (news.map (·.1))) ∧
      ∀ v s', LeaveS0 ([env].filterMap (·.frame)) h₀ L m (hideAll s.heap (news.map (·.1))) R v s' → R (.ok (.ret v)) s' := by
  obtain ⟨oL, es, ep, hLg, hLd, hN, hNs, st, B₂⟩ := groundE B F N hA hf hke
  refine ⟨⟨hN _ hLg, st, F.above⟩, B₂, st, fun b hb => ?_, fun v s' hl => ?_⟩
  · rcases mem_frames hf hb with rfl | z
    · exact ⟨oL, es, ep, hLg, hLd⟩
    · simp at z
  first | (refine and8 hl ?_; clear hl; intro g' L' m' news' T' F' N' k) | obtain ⟨g', L', m', news', T', F', N', k⟩ := hl
  have nL₀ : h₀.get? L = none := kts_self F
  obtain ⟨sl, hs⟩ := T'.up hLg
  refine k ⟨hNs sl _ (F'.keep _ _ hs), fun b o e => F'.keep b o (T'.other b o (st b o e) (fun q => by
    rcases mem_frames hf q with z | z
    · rw [z, nL₀] at e
      cases e
    · simp at z)), F.above⟩ fun p hp => ⟨(N' p hp).1, fun q => ?_, ?_⟩
  · have := (N' p hp).2.2; rw [q, hs] at this; cases this
  · cases q : h₀.get? p.1 with
    | none => rfl
    | some o =>
      obtain ⟨sl', hs'⟩ := T'.up (st _ _ q)
      have := (N' p hp).2.2
      rw [hs'] at this
      cases this
theorem groundS (B : Below A₀ base outer h₀) (F : Fr h₀ L s.heap m) (N : News h₀ L s.heap news) (XB : K.In base) (TB : Top p loose mean mg mb base) (D : KtsDicts (outer.filterMap (·.frame)) h₀)
    (T0 : KtsTurn (outer.filterMap (·.frame)) g₀ h₀) (hA : A.frames = some (env :: outer)) (hf : env.frame = some L) (hke : env.scope.kind = .function) :
    Fr h₀ L (hideAll s.heap (news.map (·.1))) m ∧ Below A base (env :: outer) (hideAll s.heap (news.map (·.1))) ∧ h₀.StaysIn (hideAll s.heap (news.map (·.1))) ∧ KtsDicts ((env :: outer).filterMap (·.frame)) (hideAll s.heap (news.map (·.1))) ∧
      ∀ v s', LeaveS ((env :: outer).filterMap (·.frame)) A₀ base outer K p loose mean mg mb g₀ h₀ L m (hideAll s.heap (news.map (·.1))) R v s' → R (.ok (.ret v)) s' := by
  obtain ⟨oL, es, ep, hLg, hLd, hN, hNs, st, B₂⟩ := groundE B F N hA hf hke
  refine ⟨⟨hN _ hLg, st, F.above⟩, B₂, st, fun b hb => ?_, fun v s' hl => ?_⟩
  · rcases mem_frames hf hb with rfl | hb
    · exact ⟨oL, es, ep, hLg, hLd⟩
    · obtain ⟨o, es', n', ho', hd'⟩ := D b hb
      exact ⟨o, es', n', st b o ho', hd'⟩
  have nL₀ : h₀.get? L = none := kts_self F
  rcases hl with ⟨L', m', news', F', N', k⟩ | ⟨g', L', m', news', T', F', N', k⟩
  · refine k ⟨hN _ (F'.keep _ _ hLg), fun b o e => F'.keep b o (st b o e), F.above⟩ fun p hp => ⟨(N' p hp).1, fun q => ?_, ?_⟩
    · have := (N' p hp).2.2; rw [q, hLg] at this; cases this
    · cases q : h₀.get? p.1 with
      | none => rfl
      | some o => have := (N' p hp).2.2; rw [st _ _ q] at this; cases this
  obtain ⟨sl, hs⟩ := T'.up hLg
  obtain ⟨T₁, S₁⟩ := kts_turn_at (h := s'.heap) (fs := outer.filterMap (·.frame)) (g := h₀)
    (fun b hb => by
      obtain ⟨_, o, ho', _⟩ := B.frames.mem hb
      exact ⟨o, ho'⟩)
    (fun b o e nmem => F'.keep b o (T'.other b o (st b o e) (fun q => by
      rcases mem_frames hf q with z | z
      · rw [z, nL₀] at e
        cases e
      · exact nmem z)))
    (fun b o e hm => by
      obtain ⟨sl', hs'⟩ := T'.up (st b o e)
      exact ⟨sl', F'.keep _ _ hs'⟩)
  have B₃ : Below A₀ base outer (ktsHeap s'.heap (outer.filterMap (·.frame)) h₀) := ⟨B.stack, fun b o e => T₁.other b o (B.stays b o e) (fun hm => by
    rw [(B.frames.mem hm).1] at e
    cases e), B.frames.of_keeps fun b o e _ => by
    obtain ⟨sl', hs'⟩ := T₁.up e
    exact ⟨_, hs', rfl⟩⟩
  refine k _ (T0.trans T₁) ⟨hNs sl _ (F'.keep _ _ hs), S₁, by rw [T₁.size]; exact F.above⟩ (fun p hp => ⟨(N' p hp).1, fun q => ?_, ?_⟩) B₃ (XB.keeps B₃.stays) (TB.keeps B₃.stays) (D.turn T₁)
  · have := (N' p hp).2.2; rw [q, hs] at this; cases this
  · refine T₁.none_ _ ?_
    cases q : h₀.get? p.1 with
    | none => rfl
    | some o =>
      obtain ⟨sl', hs'⟩ := T'.up (st _ _ q)
      have := (N' p hp).2.2
      rw [hs'] at this
      cases this
end
section
variable {prog : Program} {w : World} {A₀ A : Around} {s : Shared} {base h₀ g₀ : Heap} {outer : List Env} {L : Addr} {m : Str → Option Value} {env : Env} {news : List (Addr × Obj)} {K : Frag} {p : Program} {loose : List Str} {mean : ExcName → Option Value} {mg mb : Str → Option Value}
    {R : Result → Shared → Prop} {name qual : Str} {params : Arguments} {body : List Stmt} {scope : Scope} {dV kV doc pm cdv ct oc : Value} {an od : Option Addr} {osl : Array (Option Value)} {f : Addr} {args : Args} {binds : List (Str × Value)}
theorem code_defE (B : Below A₀ base outer h₀) (F : Fr h₀ L s.heap m) (X₀ : K.In h₀) (N : News h₀ L s.heap news) (T : Top p loose mean mg mb h₀) (XB : K.In base) (TB : Top p loose mean mg mb base) (D : KtsDicts (outer.filterMap (·.frame)) h₀)
    (T0 : KtsTurn (outer.filterMap (·.frame)) g₀ h₀) (hA : A.frames = some (env :: outer)) (hf : env.frame = some L) (hke : env.scope.kind = .function)
    (ho : K.lookup f = some ⟨oc, od, .func (fnOf name qual params body scope dV kV doc pm an cdv ct), osl⟩) (hcd : codeIn K cdv qual = true) (hroom : A.depth < recursionLimit)
    (hbind : BindsTo s (fnOf name qual params body scope dV kV doc pm an cdv ct) args binds) (hloc : ∀ y ∈ binds, scope.names.lookup y.1 = some .local)
    (h : ∀ g L' h₁, Fr h₀ L g m → Fr g L' h₁ (fun y => binds.reverse.lookup y) → News g L' h₁ news → Below A base (env :: outer) g → K.In g → Top p loose mean mg mb g → KtsDicts ((env :: outer).filterMap (·.frame)) g →
      wpAny (model prog w) (A.deeper (envOf qual scope L' f cdv)) (execs body (envOf qual scope L' f cdv))
        (fun fl s' => LeaveS ((env :: outer).filterMap (·.frame)) A₀ base outer K p loose mean mg mb g₀ h₀ L m g R (match fl with | .ret v => v | _ => .none) s')
        (fun e s' => wpAny (model prog w) (A.deeper (envOf qual scope L' f cdv)) (leaving (envOf qual scope L' f cdv) e) (fun _ s'' => R (.error e) s'') (fun e' s'' => R (.error e') s'') s')
        { s with heap := h₁, toks := s.toks + binds.length })
    (hco : scope.isCoroutine = false) (hgen : scope.isGenerator = false) (hk : scope.kind = .function)
    (hcell : ∀ x ∈ scope.names, x.2 ≠ .cell) : codeAny (model prog w) A (.call (.ref f) args) R s := by
  have X := X₀.keeps F.keep
  refine codeAny_call_def (fd := fnOf name qual params body scope dV kV doc pm an cdv ct) (body := body) (binds := binds) hroom (X _ _ ho) rfl (T.nolimit.keeps F.keep) (codeRec_of X hcd) rfl hbind hcell hloc (fun h₁ hns hk₁ => ?_) hco hgen hk
  obtain ⟨FG, BG, st, DG, lv⟩ := groundS (R := R) B F N XB TB D T0 hA hf hke
  exact wpAny_mono (h _ s.heap.objs.size h₁ FG ⟨hns, fun b o e => hk₁ b o (of_hideAll _ e), Nat.le_of_eq (hideAll_size _ _)⟩
    (fun p hp => ⟨hk₁ _ _ (N p hp).1, Nat.ne_of_lt (Heap.lt_size (N p hp).1), hideAll_none _ (List.mem_map_of_mem hp)⟩) BG (X₀.keeps st) (T.keeps st) DG) (fun fl s' hl => lv _ _ hl) fun _ _ y => y
theorem code_defE0C (B : Below A₀ base [] h₀) (F : Fr h₀ L s.heap m) (X₀ : K.In h₀) (N : News h₀ L s.heap news) (T : Top p loose mean mg mb h₀) (hA : A.frames = some [env]) (hf : env.frame = some L) (hke : env.scope.kind = .function)
    (ho : K.lookup f = some ⟨oc, od, .func (fnOf name qual params body scope dV kV doc pm an cdv ct), osl⟩) (hcd : codeIn K cdv qual = true) (hroom : A.depth < recursionLimit)
    (hbind : BindsTo s (fnOf name qual params body scope dV kV doc pm an cdv ct) args binds) (hkind : (binds.all fun y => scope.names.lookup y.1 == some .local || scope.names.lookup y.1 == some .cell) = true)
    (hnd : ((cellsFrom 0 scope.names []).map (·.1)).Nodup)
    (h : ∀ g L' h₁ tk cells, Fr h₀ L g m → Fr g L' h₁ (bindL (envOfC qual scope L' f cdv).kindOf binds fun _ => none) → News g L' h₁ (cells ++ news) →
      CellsAre (bindC (envOfC qual scope L' f cdv).kindOf binds fun _ => none) (cellsFrom (L' + 1) scope.names []) cells → Below A base [env] g → K.In g → Top p loose mean mg mb g → KtsDicts ([env].filterMap (·.frame)) g → (∀ p ∈ news, p.1 < L') →
      wpAny (model prog w) (A.deeper (envOfC qual scope L' f cdv)) (execs body (envOfC qual scope L' f cdv))
        (fun fl s' => LeaveS0 ([env].filterMap (·.frame)) h₀ L m g R (match fl with | .ret v => v | _ => .none) s')
        (fun e s' => wpAny (model prog w) (A.deeper (envOfC qual scope L' f cdv)) (leaving (envOfC qual scope L' f cdv) e) (fun _ s'' => R (.error e) s'') (fun e' s'' => R (.error e') s'') s')
        { s with heap := h₁, toks := tk })
    (hco : scope.isCoroutine = false) (hgen : scope.isGenerator = false) (hk : scope.kind = .function) : codeAny (model prog w) A (.call (.ref f) args) R s := by
  have X := X₀.keeps F.keep
  obtain ⟨FG, BG, st, DG, lv⟩ := groundS0 (R := R) B F N hA hf hke
  refine codeAny_call_function hroom (X _ _ ho) rfl hco hgen rfl (codeRec_of X hcd) (hbind _ _ _ _ ?_)
  refine wpAny_newFunctionEnv_cells hk (kindsX hkind _) fun env' he s' x => ?_
  subst he
  refine ⟨(T.nolimit.keeps F.keep).keeps x.toInCall.keep, codeAny_func ?_⟩
  obtain ⟨h₁, tk, rfl, _⟩ := x.done
  have hk₁ := x.toInCall.keep
  obtain ⟨cells, NC, Y⟩ := Cl.news (h₀ := s.heap) (Nat.le_refl _) fun n c hm => ⟨x.cell n c (lookup_of_mem_nodup (cellsFrom_names scope.names 0 (s.heap.objs.size + 1) [] [] rfl ▸ hnd) hm), x.above n c hm⟩
  refine wpAny_mono (h _ s.heap.objs.size h₁ tk cells FG ⟨x.toInCall.ns, fun b o e => hk₁ b o (of_hideAll _ e), Nat.le_of_eq (hideAll_size _ _)⟩ (fun p hp => ?_) Y BG (X₀.keeps st) (T.keeps st) DG (fun p hp => Heap.lt_size (N p hp).1)) (fun fl s' hl => lv _ _ hl) fun _ _ y => y
  rcases List.mem_append.mp hp with hp | hp
  · refine ⟨(NC p hp).1, (NC p hp).2.1, ?_⟩
    cases q : (hideAll s.heap (news.map (·.1))).get? p.1 with
    | none => rfl
    | some o => have := of_hideAll _ q; rw [(NC p hp).2.2] at this; cases this
  · exact ⟨hk₁ _ _ (N p hp).1, Nat.ne_of_lt (Heap.lt_size (N p hp).1), hideAll_none _ (List.mem_map_of_mem hp)⟩
end
end Mine
end
section
namespace Mine
theorem wd_H1_1 : True := by (k_with "call ref" => ((k_here; (with_reducible show wpAny _ _ (call (Value.ref 372) [_, _]) _ _ _); k_dflt (refine' mk_world ?_ ?_ ?_ ?_ ?_ ?_ ?_ ?_ ?_ ?_; rotate_right 10; (k_asm); (k_asm); (k_asm); (k_asm); (k_asm); (exact rfl); (exact rfl); (exact rfl); (ktr_room)); intro wd wdd wes wn h' tk' F' N' hbits hdigs))); (k_with "execs cons" => (k_here; (with_reducible show wpAny _ _ (execs (_ :: _) _) _ _ _); (try k_made); (refine execsF ?_); intro _ _ _ _ _)); (k_with "execs cons" => (k_here; (with_reducible show wpAny _ _ (execs (_ :: _) _) _ _ _); (fail_if_success (with_reducible refine gGq GI.z ?_)); (try k_made); k_dflt (refine' withG ?_ ?_ ?_ ?_; rotate_right 4; (k_asm); (k_asm); (rfl); k_whole); intro _ _ _ gGq)); (k_with "storeName" => (k_here; (first | ((with_reducible refine' gGq GI.p ?_ ?_ ?_ ?_; rotate_right 4)) | ((with_reducible refine' gGq GI.r ?_ ?_ ?_ ?_; rotate_right 4))); k_dflt ((rotate_left 2; (kernel_rfl!); rotate_right 2); (k_asm); (k_asm); k_whole; intro _ _ _; (try k_sweep)))); trivial
theorem heard {w : World} {mean : ExcName → Option Value} {mg mb : Str → Option Value} {news : List (Addr × Obj)} {f la : Addr} {o : Out} (ho : o.fits) (hfk : keepIn (hd.heap_39 w.params) (.ref f) = true)
   (hwork : ∀ (wd d : Addr) (es : List DictEntry) (n : Nat) (t u : Tok), getL "bits" es = some (some (.int 16 t)) → getL "digits" es = some (some (.int 6 u)) →
     Ct w mean mg mb f 40 ((wd, W.instObj 372 d) :: (d, dictOf es n) :: news) True [.ref wd, .ref la] (RetO w ((wd, W.instObj 372 d) :: (d, dictOf es n) :: news) o)) :
   Cs w mean mg mb 395 60 news True [.ref f, .ref la] o.told := by
  refine shed ?_ fun _ n h => ?_
  focus (
  intro dp un gd cn cs a ccd cl outer A₀ base h₀ g₀ L m s Q E B F X N T hk XB TB D T0 _ hd hu hret
  refine wpAny_call ?_
  (refine' code_defE ?k1 ?k2 ?k3 ?k4 ?k5 XB TB D T0 ?kA ?hf ?hke ?k6 ?k7 ?k8 ?k9 ?kB ?_ ?c2 ?c3 ?c4 ?c5; (case kA => exact rfl); (case hf => exact rfl); (case hke => exact hk); (case k2 => k_asm); (case k1 => k_asm); (case k3 => k_asm); (case k4 => k_asm); (case k5 => k_asm); (case k6 => k_is); (case k7 => k_is); (case k8 => k_room); (case k9 => first | exact binds_K (by k_in) rfl (by k_is) rfl rfl rfl | exact BindsTo.of_eq rfl | fail "kts_go: no rule for these arguments"); (case kB => exact locs rfl); (case c2 => exact rfl); (case c3 => exact rfl); (case c4 => exact rfl); (case c5 => decide); k_whole; intro g' L' h' FG' F' N' B' X' T' D'; (try dsimp only); (try k_lift B'); (try k_fold))
  k_steps
  refine callWith_K X' hfk ?_ rfl rfl
  k_steps
  k_dflt (refine' hwork _ _ _ _ _ _ ?b1 ?b2 _ _ _ _ _ _ _ _ _ _ _ _ _ _ _ _ _ ?k1 ?k2 ?k3 ?k4 ?k5 ?kK trivial ?kd ?ku ?_)
  case b1 => assumption
  case b2 => assumption
  case k1 => k_asm
  case k2 => k_asm
  case k3 => k_asm
  case k4 => k_asm
  case k5 => k_asm
  case kK => exact rfl
  case kd => ktr_room
  case ku => ktr_units
  cases o with
  | val R =>
    intro t h' tk' F' N'
    k_steps
    (rename Fr h₀ _ _ _ => kF)
    (rename News h₀ _ _ _ => kN)
    exact hret t h₀ _ _ T0 kF (kst_newsOf kN (fun p hp => tl2 hp)) B X T D
  | err c =>
    intro e G h' tk' F' R' U'
    k_dflt (refine' caught_as R' F' ?k1 U' XB TB ?k2 KtsTurn.refl ?k3 ?_)
    case k1 => assumption
    case k2 => assumption
    case k3 => k_is
    intro h1 g1 oe d vs tc t1 t2 t3 tk1 Tn F1 N1 Ie De B1 X1 T1 D1
    k_steps
    have I1 : InstAt h1 e oe 34 (some (excDict w c tc t1 t2 t3)) := ⟨(N1 _ (.head _)).1, Ie.1, (by obtain ⟨_, _, dt, _⟩ := oe; cases De; rfl), (by rw [Ie.2]; exact (N1 _ (.tail _ (.head _))).1)⟩
    k_dflt (refine' exc_attr (X1.keeps F1.keep) I1 (exc_cls (X1.keeps F1.keep)) ?a1 ?a2 ?a3 ?a4 ?_)
    case a1 => with_unfolding_all rfl
    case a2 => with_unfolding_all rfl
    case a3 => with_unfolding_all rfl
    case a4 => rfl
    have hcl : c.length ≤ 100 := ho
    dsimp only
    k_steps
    (rename KtsTurn _ g₀ _ => kT)
    (rename Fr _ L _ m => kF)
    (rename News _ L _ _ => kN)
    (rename Below A₀ base outer _ => kB)
    (rename Frag.In _ _ => kX)
    (rename Top _ _ _ _ _ _ => kP)
    (rename KtsDicts _ _ => kD)
    exact hret _ _ _ _ kT kF (kst_newsOf kN (fun p hp => tl4 hp)) kB kX kP kD
  )
  simpa using pick n 5 h
end Mine
end
section
namespace Mine
theorem Ct.up {w : World} {mean : ExcName → Option Value} {mg mb : Str → Option Value} {f : Addr} {D D' : Nat} {news : List (Addr × Obj)} {pre : Prop} {vs : List Value} {ret : Ends} (h : Ct w mean mg mb f D news pre vs ret) (hD : D ≤ D') (hp : pre) : Ct w mean mg mb f D' news True vs ret := by
  dsimp only [Ct] at h ⊢
  intro dp un gd cn cs a ccd cl outer A₀ base h₀ L m s Q E B F X N T hk _ hd hu hret
  exact h dp un gd cn cs a ccd cl outer A₀ base h₀ L m s Q E B F X N T hk hp (by omega) (by omega) hret
noncomputable abbrev CsT (w : World) (mean : ExcName → Option Value) (mg mb : Str → Option Value) (f : Addr) (D : Nat) (news : List (Addr × Obj)) (pre : Prop) (vs : List Value) (P : Int → Int → Prop) : Prop :=
  ∀ (dp un : Nat) (gd : Option (List Code)) (cn : Str) (cs : Scope) (a : Addr) (ccd : Value) (cl : List (Str × Addr)) (outer : List Env) (A₀ : Around) (base h₀ g₀ : Heap) (L : Addr) (m : Str → Option Value) (s : Shared) (Q E : Value → Shared → Prop),
    Below A₀ base outer h₀ → Fr h₀ L s.heap m → Frag.In (hd.heap_39 w.params) h₀ → News h₀ L s.heap news → Top hd.view_39 (looseW hd.view_39 [Str.ofString "BasicError"]) mean mg mb h₀ → cs.kind = .function →
    Frag.In (hd.heap_39 w.params) base → Top hd.view_39 (looseW hd.view_39 [Str.ofString "BasicError"]) mean mg mb base → KtsDicts (outer.filterMap (·.frame)) h₀ → KtsTurn (outer.filterMap (·.frame)) g₀ h₀ →
    pre → dp + D < recursionLimit → un + 10 * D < cLine →
    (∀ (r : Addr) (p q : Int) (tp tq : Tok) (h₀' h' : Heap) (tk' : Nat), P p q → KtsTurn (outer.filterMap (·.frame)) g₀ h₀' → Fr h₀' L h' m → News h₀' L h' ((r, ({ cls := .type "tuple", data := .seq #[.int p tp, .int q tq] } : Obj)) :: news) → Below A₀ base outer h₀' → Frag.In (hd.heap_39 w.params) h₀' → Top hd.view_39 (looseW hd.view_39 [Str.ofString "BasicError"]) mean mg mb h₀' → KtsDicts (outer.filterMap (·.frame)) h₀' →
      Q (.ref r) { s with heap := h', toks := tk' }) →
      wpAny (model Challenge.pw_pf0012_01 w) (ktrTop dp un gd cn cs L a ccd cl outer) (call (.ref f) vs) Q E s
theorem heardT {w : World} {mean : ExcName → Option Value} {mg mb : Str → Option Value} {news : List (Addr × Obj)} {f la : Addr} {P : Int → Int → Prop} (hfk : keepIn (hd.heap_39 w.params) (.ref f) = true)
   (hwork : ∀ (wd d : Addr) (es : List DictEntry) (n : Nat) (t u : Tok), getL "bits" es = some (some (.int 16 t)) → getL "digits" es = some (some (.int 6 u)) →
     Ct w mean mg mb f 40 ((wd, W.instObj 372 d) :: (d, dictOf es n) :: news) True [.ref wd, .ref la] (RetT ((wd, W.instObj 372 d) :: (d, dictOf es n) :: news) P)) :
   CsT w mean mg mb 395 60 news True [.ref f, .ref la] P := by
  refine shed ?_ fun _ n h => ?_
  focus (
  intro dp un gd cn cs a ccd cl outer A₀ base h₀ g₀ L m s Q E B F X N T hk XB TB D T0 _ hd hu hret
  refine wpAny_call ?_
  (refine' code_defE ?k1 ?k2 ?k3 ?k4 ?k5 XB TB D T0 ?kA ?hf ?hke ?k6 ?k7 ?k8 ?k9 ?kB ?_ ?c2 ?c3 ?c4 ?c5; (case kA => exact rfl); (case hf => exact rfl); (case hke => exact hk); (case k2 => k_asm); (case k1 => k_asm); (case k3 => k_asm); (case k4 => k_asm); (case k5 => k_asm); (case k6 => k_is); (case k7 => k_is); (case k8 => k_room); (case k9 => first | exact binds_K (by k_in) rfl (by k_is) rfl rfl rfl | exact BindsTo.of_eq rfl | fail "kts_go: no rule for these arguments"); (case kB => exact locs rfl); (case c2 => exact rfl); (case c3 => exact rfl); (case c4 => exact rfl); (case c5 => decide); k_whole; intro g' L' h' FG' F' N' B' X' T' D'; (try dsimp only); (try k_lift B'); (try k_fold))
  k_steps
  refine callWith_K X' hfk ?_ rfl rfl
  k_steps
  k_dflt (refine' hwork _ _ _ _ _ _ ?b1 ?b2 _ _ _ _ _ _ _ _ _ _ _ _ _ _ _ _ _ ?k1 ?k2 ?k3 ?k4 ?k5 ?kK trivial ?kd ?ku ?_)
  case b1 => assumption
  case b2 => assumption
  case k1 => k_asm
  case k2 => k_asm
  case k3 => k_asm
  case k4 => k_asm
  case k5 => k_asm
  case kK => exact rfl
  case kd => ktr_room
  case ku => ktr_units
  intro r p q tp tq h' tk' hP F' N'
  k_steps
  (rename Fr h₀ _ _ _ => kF)
  (rename News h₀ _ _ _ => kN)
  exact hret r p q tp tq h₀ _ _ hP T0 kF (kst_newsOf kN (fun z hz => (List.mem_cons.mp hz).elim (fun e => by rw [e]; exact .head _) (fun hz => tl3 hz))) B X T D
  )
  simpa using pick n 5 h
end Mine
end
section
namespace Mine
theorem h_left_v {w : World} {mean : ExcName → Option Value} {mg mb : Str → Option Value} {news : List (Addr × Obj)} {la : Addr} {cc : Nat} {x : Str} {n : Int} {t u : Tok} (hm : (la, W.listOf #[.str x t, .int n u] cc) ∈ news) (hl : x.length ≤ 100) (hn : 0 ≤ n ∧ n ≤ 255) : Cs w mean mg mb 395 60 news True [.ref 255, .ref la] (fun t => .str (St ((cd x).take n.toNat)) t) := by
  have key : Cs w mean mg mb 395 60 news True [.ref 255, .ref la] (Out.val (fun t => .str (St ((cd x).take n.toNat)) t)).told := by
    refine heard trivial (by k_is) (fun wd d es c tb ub hbt hdg => ?_)
    have q := Ct.up (c_left (w := w) (mean := mean) (mg := mg) (mb := mb) (news := (wd, W.instObj 372 d) :: (d, dictOf es c) :: news) (wv := .ref wd)) (by decide : _ ≤ 40) ⟨tl2 hm, hl, by omega, by omega⟩
    rw [if_pos hn] at q
    exact q
  exact key
theorem h_left_x {w : World} {mean : ExcName → Option Value} {mg mb : Str → Option Value} {news : List (Addr × Obj)} {la : Addr} {cc : Nat} {x : Str} {n : Int} {t u : Tok} (hm : (la, W.listOf #[.str x t, .int n u] cc) ∈ news) (hl : x.length ≤ 100) (hn : ¬ (0 ≤ n ∧ n ≤ 255)) (hb : -1000 ≤ n ∧ n ≤ 1000) : Cs w mean mg mb 395 60 news True [.ref 255, .ref la] (fun t => .str (Str.ofString "error FC") t) := by
  have key : Cs w mean mg mb 395 60 news True [.ref 255, .ref la] (Out.err "FC").told := by
    refine heard (by show _ ≤ 100; decide) (by k_is) (fun wd d es c tb ub hbt hdg => ?_)
    have q := Ct.up (c_left (w := w) (mean := mean) (mg := mg) (mb := mb) (news := (wd, W.instObj 372 d) :: (d, dictOf es c) :: news) (wv := .ref wd)) (by decide : _ ≤ 40) ⟨tl2 hm, hl, hb⟩
    rw [if_neg hn] at q
    exact q
  exact key
theorem h_left_tm {w : World} {mean : ExcName → Option Value} {mg mb : Str → Option Value} {news : List (Addr × Obj)} {la : Addr} {cc : Nat} {n k : Int} {t u : Tok} (hm : (la, W.listOf #[.int n t, .int k u] cc) ∈ news)  : Cs w mean mg mb 395 60 news True [.ref 255, .ref la] (fun t => .str (Str.ofString "error TM") t) := by
  have key : Cs w mean mg mb 395 60 news True [.ref 255, .ref la] (Out.err "TM").told := by
    refine heard (by show _ ≤ 100; decide) (by k_is) (fun wd d es c tb ub hbt hdg => ?_)
    exact Ct.up (c_left_tm (w := w) (mean := mean) (mg := mg) (mb := mb) (news := (wd, W.instObj 372 d) :: (d, dictOf es c) :: news) (wv := .ref wd)) (by decide : _ ≤ 40) (tl2 hm)
  exact key
theorem h_right_v {w : World} {mean : ExcName → Option Value} {mg mb : Str → Option Value} {news : List (Addr × Obj)} {la : Addr} {cc : Nat} {x : Str} {n : Int} {t u : Tok} (hm : (la, W.listOf #[.str x t, .int n u] cc) ∈ news) (hl : x.length ≤ 100) (hn : 0 ≤ n ∧ n ≤ 255) : Cs w mean mg mb 395 60 news True [.ref 262, .ref la] (fun t => .str (St ((cd x).drop (x.length - n.toNat))) t) := by
  have key : Cs w mean mg mb 395 60 news True [.ref 262, .ref la] (Out.val (fun t => .str (St ((cd x).drop (x.length - n.toNat))) t)).told := by
    refine heard trivial (by k_is) (fun wd d es c tb ub hbt hdg => ?_)
    have q := Ct.up (c_right (w := w) (mean := mean) (mg := mg) (mb := mb) (news := (wd, W.instObj 372 d) :: (d, dictOf es c) :: news) (wv := .ref wd)) (by decide : _ ≤ 40) ⟨tl2 hm, hl, by omega, by omega⟩
    rw [if_pos hn] at q
    exact q
  exact key
theorem h_right_x {w : World} {mean : ExcName → Option Value} {mg mb : Str → Option Value} {news : List (Addr × Obj)} {la : Addr} {cc : Nat} {x : Str} {n : Int} {t u : Tok} (hm : (la, W.listOf #[.str x t, .int n u] cc) ∈ news) (hl : x.length ≤ 100) (hn : ¬ (0 ≤ n ∧ n ≤ 255)) (hb : -1000 ≤ n ∧ n ≤ 1000) : Cs w mean mg mb 395 60 news True [.ref 262, .ref la] (fun t => .str (Str.ofString "error FC") t) := by
  have key : Cs w mean mg mb 395 60 news True [.ref 262, .ref la] (Out.err "FC").told := by
    refine heard (by show _ ≤ 100; decide) (by k_is) (fun wd d es c tb ub hbt hdg => ?_)
    have q := Ct.up (c_right (w := w) (mean := mean) (mg := mg) (mb := mb) (news := (wd, W.instObj 372 d) :: (d, dictOf es c) :: news) (wv := .ref wd)) (by decide : _ ≤ 40) ⟨tl2 hm, hl, hb⟩
    rw [if_neg hn] at q
    exact q
  exact key
theorem h_mid2_v {w : World} {mean : ExcName → Option Value} {mg mb : Str → Option Value} {news : List (Addr × Obj)} {la : Addr} {cc : Nat} {x : Str} {n : Int} {t u : Tok} (hm : (la, W.listOf #[.str x t, .int n u] cc) ∈ news) (hl : x.length ≤ 100) (hn : 1 ≤ n ∧ n ≤ 255) : Cs w mean mg mb 395 60 news True [.ref 269, .ref la] (fun t => .str (St ((cd x).drop (n - 1).toNat)) t) := by
  have key : Cs w mean mg mb 395 60 news True [.ref 269, .ref la] (Out.val (fun t => .str (St ((cd x).drop (n - 1).toNat)) t)).told := by
    refine heard trivial (by k_is) (fun wd d es c tb ub hbt hdg => ?_)
    have q := Ct.up (c_mid2 (w := w) (mean := mean) (mg := mg) (mb := mb) (news := (wd, W.instObj 372 d) :: (d, dictOf es c) :: news) (wv := .ref wd)) (by decide : _ ≤ 40) ⟨tl2 hm, hl, by omega, by omega⟩
    rw [if_pos hn] at q
    exact q
  exact key
theorem h_mid2_x {w : World} {mean : ExcName → Option Value} {mg mb : Str → Option Value} {news : List (Addr × Obj)} {la : Addr} {cc : Nat} {x : Str} {n : Int} {t u : Tok} (hm : (la, W.listOf #[.str x t, .int n u] cc) ∈ news) (hl : x.length ≤ 100) (hn : ¬ (1 ≤ n ∧ n ≤ 255)) (hb : -1000 ≤ n ∧ n ≤ 1000) : Cs w mean mg mb 395 60 news True [.ref 269, .ref la] (fun t => .str (Str.ofString "error FC") t) := by
  have key : Cs w mean mg mb 395 60 news True [.ref 269, .ref la] (Out.err "FC").told := by
    refine heard (by show _ ≤ 100; decide) (by k_is) (fun wd d es c tb ub hbt hdg => ?_)
    have q := Ct.up (c_mid2 (w := w) (mean := mean) (mg := mg) (mb := mb) (news := (wd, W.instObj 372 d) :: (d, dictOf es c) :: news) (wv := .ref wd)) (by decide : _ ≤ 40) ⟨tl2 hm, hl, hb⟩
    rw [if_neg hn] at q
    exact q
  exact key
theorem h_mid3_v {w : World} {mean : ExcName → Option Value} {mg mb : Str → Option Value} {news : List (Addr × Obj)} {la : Addr} {cc : Nat} {x : Str} {n k : Int} {t u v vv : Tok} {pa : Addr} (hm : (la, W.listOf #[.str x t, .ref pa, .int k v] cc) ∈ news) (hp : (pa, ({ cls := .type "tuple", data := .seq #[.int n u, .int 0 vv] } : Obj)) ∈ news) (hl : x.length ≤ 100) (hn : (1 ≤ n ∧ n ≤ 255) ∧ 0 ≤ k ∧ k ≤ 255) : Cs w mean mg mb 395 60 news True [.ref 269, .ref la] (fun t => .str (St (((cd x).take (n - 1 + k).toNat).drop (n - 1).toNat)) t) := by
  have key : Cs w mean mg mb 395 60 news True [.ref 269, .ref la] (Out.val (fun t => .str (St (((cd x).take (n - 1 + k).toNat).drop (n - 1).toNat)) t)).told := by
    refine heard trivial (by k_is) (fun wd d es c tb ub hbt hdg => ?_)
    have q := Ct.up (c_mid3t (w := w) (mean := mean) (mg := mg) (mb := mb) (news := (wd, W.instObj 372 d) :: (d, dictOf es c) :: news) (wv := .ref wd)) (by decide : _ ≤ 40) ⟨tl2 hm, tl2 hp, hl, by omega, by omega, by omega, by omega⟩
    rw [if_pos hn] at q
    exact q
  exact key
theorem h_mid3_x {w : World} {mean : ExcName → Option Value} {mg mb : Str → Option Value} {news : List (Addr × Obj)} {la : Addr} {cc : Nat} {x : Str} {n k : Int} {t u v vv : Tok} {pa : Addr} (hm : (la, W.listOf #[.str x t, .ref pa, .int k v] cc) ∈ news) (hp : (pa, ({ cls := .type "tuple", data := .seq #[.int n u, .int 0 vv] } : Obj)) ∈ news) (hl : x.length ≤ 100) (hn : ¬ ((1 ≤ n ∧ n ≤ 255) ∧ 0 ≤ k ∧ k ≤ 255)) (hb : (-1000 ≤ n ∧ n ≤ 1000) ∧ -1000 ≤ k ∧ k ≤ 1000) : Cs w mean mg mb 395 60 news True [.ref 269, .ref la] (fun t => .str (Str.ofString "error FC") t) := by
  have key : Cs w mean mg mb 395 60 news True [.ref 269, .ref la] (Out.err "FC").told := by
    refine heard (by show _ ≤ 100; decide) (by k_is) (fun wd d es c tb ub hbt hdg => ?_)
    have q := Ct.up (c_mid3t (w := w) (mean := mean) (mg := mg) (mb := mb) (news := (wd, W.instObj 372 d) :: (d, dictOf es c) :: news) (wv := .ref wd)) (by decide : _ ≤ 40) ⟨tl2 hm, tl2 hp, hl, hb.1.1, hb.1.2, hb.2.1, hb.2.2⟩
    rw [if_neg hn] at q
    exact q
  exact key
theorem h_mid_tm {w : World} {mean : ExcName → Option Value} {mg mb : Str → Option Value} {news : List (Addr × Obj)} {la : Addr} {cc : Nat} {x y : Str} {t u : Tok} (hm : (la, W.listOf #[.str x t, .str y u] cc) ∈ news)  : Cs w mean mg mb 395 60 news True [.ref 269, .ref la] (fun t => .str (Str.ofString "error TM") t) := by
  have key : Cs w mean mg mb 395 60 news True [.ref 269, .ref la] (Out.err "TM").told := by
    refine heard (by show _ ≤ 100; decide) (by k_is) (fun wd d es c tb ub hbt hdg => ?_)
    exact Ct.up (c_mid_tm (w := w) (mean := mean) (mg := mg) (mb := mb) (news := (wd, W.instObj 372 d) :: (d, dictOf es c) :: news) (wv := .ref wd)) (by decide : _ ≤ 40) (tl2 hm)
  exact key
theorem h_seg {w : World} {mean : ExcName → Option Value} {mg mb : Str → Option Value} {news : List (Addr × Obj)} {la : Addr} {cc : Nat} {x : Str} {n k : Int} {t u v : Tok} (hm : (la, W.listOf #[.str x t, .int n u, .int k v] cc) ∈ news) (hl : x.length ≤ 100) (hb : (-1000 ≤ n ∧ n ≤ 1000) ∧ -1000 ≤ k ∧ k ≤ 1000) : Cs w mean mg mb 395 60 news True [.ref 274, .ref la] (fun t => .str (St (((cd x).take k.toNat).drop (n - 1).toNat)) t) := by
  have key : Cs w mean mg mb 395 60 news True [.ref 274, .ref la] (Out.val (fun t => .str (St (((cd x).take k.toNat).drop (n - 1).toNat)) t)).told := by
    refine heard trivial (by k_is) (fun wd d es c tb ub hbt hdg => ?_)
    exact Ct.up (c_seg (w := w) (mean := mean) (mg := mg) (mb := mb) (news := (wd, W.instObj 372 d) :: (d, dictOf es c) :: news) (wv := .ref wd)) (by decide : _ ≤ 40) ⟨tl2 hm, hl, hb.1.1, hb.1.2, hb.2.1, hb.2.2⟩
  exact key
theorem h_instr2 {w : World} {mean : ExcName → Option Value} {mg mb : Str → Option Value} {news : List (Addr × Obj)} {la : Addr} {cc : Nat} {x y : Str} {t u : Tok} (hm : (la, W.listOf #[.str x t, .str y u] cc) ∈ news) (hl : x.length ≤ 100) (hy : y.length ≤ 100) : Cs w mean mg mb 395 60 news True [.ref 241, .ref la] (fun t => .int (foundAt x y 1) t) := by
  have key : Cs w mean mg mb 395 60 news True [.ref 241, .ref la] (Out.val (fun t => .int (foundAt x y 1) t)).told := by
    refine heard trivial (by k_is) (fun wd d es c tb ub hbt hdg => ?_)
    exact Ct.up (c_instr2 (w := w) (mean := mean) (mg := mg) (mb := mb) (news := (wd, W.instObj 372 d) :: (d, dictOf es c) :: news) (wv := .ref wd)) (by decide : _ ≤ 40) ⟨tl2 hm, hl, hy⟩
  exact key
theorem h_instr3_v {w : World} {mean : ExcName → Option Value} {mg mb : Str → Option Value} {news : List (Addr × Obj)} {la : Addr} {cc : Nat} {x y : Str} {n : Int} {t u v : Tok} (hm : (la, W.listOf #[.int n v, .str x t, .str y u] cc) ∈ news) (hl : x.length ≤ 100) (hy : y.length ≤ 100) (hn : 1 ≤ n ∧ n ≤ 255) : Cs w mean mg mb 395 60 news True [.ref 241, .ref la] (fun t => .int (foundAt x y n) t) := by
  have key : Cs w mean mg mb 395 60 news True [.ref 241, .ref la] (Out.val (fun t => .int (foundAt x y n) t)).told := by
    refine heard trivial (by k_is) (fun wd d es c tb ub hbt hdg => ?_)
    have q := Ct.up (c_instr3 (w := w) (mean := mean) (mg := mg) (mb := mb) (news := (wd, W.instObj 372 d) :: (d, dictOf es c) :: news) (wv := .ref wd)) (by decide : _ ≤ 40) ⟨tl2 hm, hl, hy, by omega, by omega⟩
    rw [if_pos hn] at q
    exact q
  exact key
theorem h_instr3_x {w : World} {mean : ExcName → Option Value} {mg mb : Str → Option Value} {news : List (Addr × Obj)} {la : Addr} {cc : Nat} {x y : Str} {n : Int} {t u v : Tok} (hm : (la, W.listOf #[.int n v, .str x t, .str y u] cc) ∈ news) (hl : x.length ≤ 100) (hy : y.length ≤ 100) (hn : ¬ (1 ≤ n ∧ n ≤ 255)) (hb : -1000 ≤ n ∧ n ≤ 1000) : Cs w mean mg mb 395 60 news True [.ref 241, .ref la] (fun t => .str (Str.ofString "error FC") t) := by
  have key : Cs w mean mg mb 395 60 news True [.ref 241, .ref la] (Out.err "FC").told := by
    refine heard (by show _ ≤ 100; decide) (by k_is) (fun wd d es c tb ub hbt hdg => ?_)
    have q := Ct.up (c_instr3 (w := w) (mean := mean) (mg := mg) (mb := mb) (news := (wd, W.instObj 372 d) :: (d, dictOf es c) :: news) (wv := .ref wd)) (by decide : _ ≤ 40) ⟨tl2 hm, hl, hy, hb.1, hb.2⟩
    rw [if_neg hn] at q
    exact q
  exact key
theorem h_ucase {w : World} {mean : ExcName → Option Value} {mg mb : Str → Option Value} {news : List (Addr × Obj)} {la : Addr} {cc : Nat} {x : Str} {t : Tok} (hm : (la, W.listOf #[.str x t] cc) ∈ news) (hl : x.length ≤ 100) (hal : ∀ c ∈ cd x, c ≤ 255) : Cs w mean mg mb 395 60 news True [.ref 321, .ref la] (fun t => .str (St ((cd x).map upc)) t) := by
  have key : Cs w mean mg mb 395 60 news True [.ref 321, .ref la] (Out.val (fun t => .str (St ((cd x).map upc)) t)).told := by
    refine heard trivial (by k_is) (fun wd d es c tb ub hbt hdg => ?_)
    exact Ct.up (c_ucase (w := w) (mean := mean) (mg := mg) (mb := mb) (news := (wd, W.instObj 372 d) :: (d, dictOf es c) :: news) (wv := .ref wd)) (by decide : _ ≤ 40) ⟨tl2 hm, hl, hal⟩
  exact key
theorem h_lcase {w : World} {mean : ExcName → Option Value} {mg mb : Str → Option Value} {news : List (Addr × Obj)} {la : Addr} {cc : Nat} {x : Str} {t : Tok} (hm : (la, W.listOf #[.str x t] cc) ∈ news) (hl : x.length ≤ 100) (hal : ∀ c ∈ cd x, c ≤ 255) : Cs w mean mg mb 395 60 news True [.ref 326, .ref la] (fun t => .str (St ((cd x).map loc)) t) := by
  have key : Cs w mean mg mb 395 60 news True [.ref 326, .ref la] (Out.val (fun t => .str (St ((cd x).map loc)) t)).told := by
    refine heard trivial (by k_is) (fun wd d es c tb ub hbt hdg => ?_)
    exact Ct.up (c_lcase (w := w) (mean := mean) (mg := mg) (mb := mb) (news := (wd, W.instObj 372 d) :: (d, dictOf es c) :: news) (wv := .ref wd)) (by decide : _ ≤ 40) ⟨tl2 hm, hl, hal⟩
  exact key
theorem h_ltrim {w : World} {mean : ExcName → Option Value} {mg mb : Str → Option Value} {news : List (Addr × Obj)} {la : Addr} {cc : Nat} {x : Str} {t : Tok} (hm : (la, W.listOf #[.str x t] cc) ∈ news) (hl : x.length ≤ 100) : Cs w mean mg mb 395 60 news True [.ref 333, .ref la] (fun t => .str (St (lstrip (cd x))) t) := by
  have key : Cs w mean mg mb 395 60 news True [.ref 333, .ref la] (Out.val (fun t => .str (St (lstrip (cd x))) t)).told := by
    refine heard trivial (by k_is) (fun wd d es c tb ub hbt hdg => ?_)
    exact Ct.up (c_ltrim (w := w) (mean := mean) (mg := mg) (mb := mb) (news := (wd, W.instObj 372 d) :: (d, dictOf es c) :: news) (wv := .ref wd)) (by decide : _ ≤ 40) ⟨tl2 hm, hl⟩
  exact key
theorem h_rtrim {w : World} {mean : ExcName → Option Value} {mg mb : Str → Option Value} {news : List (Addr × Obj)} {la : Addr} {cc : Nat} {x : Str} {t : Tok} (hm : (la, W.listOf #[.str x t] cc) ∈ news) (hl : x.length ≤ 100) : Cs w mean mg mb 395 60 news True [.ref 340, .ref la] (fun t => .str (St (rstrip (cd x))) t) := by
  have key : Cs w mean mg mb 395 60 news True [.ref 340, .ref la] (Out.val (fun t => .str (St (rstrip (cd x))) t)).told := by
    refine heard trivial (by k_is) (fun wd d es c tb ub hbt hdg => ?_)
    exact Ct.up (c_rtrim (w := w) (mean := mean) (mg := mg) (mb := mb) (news := (wd, W.instObj 372 d) :: (d, dictOf es c) :: news) (wv := .ref wd)) (by decide : _ ≤ 40) ⟨tl2 hm, hl⟩
  exact key
theorem h_chr_v {w : World} {mean : ExcName → Option Value} {mg mb : Str → Option Value} {news : List (Addr × Obj)} {la : Addr} {cc : Nat} {n : Int} {t : Tok} (hm : (la, W.listOf #[.int n t] cc) ∈ news) (hn : 0 ≤ n ∧ n ≤ 255) : Cs w mean mg mb 395 60 news True [.ref 248, .ref la] (fun t => .str (St [n.toNat]) t) := by
  have key : Cs w mean mg mb 395 60 news True [.ref 248, .ref la] (Out.val (fun t => .str (St [n.toNat]) t)).told := by
    refine heard trivial (by k_is) (fun wd d es c tb ub hbt hdg => ?_)
    have q := Ct.up (c_chr (w := w) (mean := mean) (mg := mg) (mb := mb) (news := (wd, W.instObj 372 d) :: (d, dictOf es c) :: news) (wv := .ref wd)) (by decide : _ ≤ 40) ⟨tl2 hm, by omega, by omega⟩
    rw [if_pos hn] at q
    exact q
  exact key
theorem h_chr_x {w : World} {mean : ExcName → Option Value} {mg mb : Str → Option Value} {news : List (Addr × Obj)} {la : Addr} {cc : Nat} {n : Int} {t : Tok} (hm : (la, W.listOf #[.int n t] cc) ∈ news) (hn : ¬ (0 ≤ n ∧ n ≤ 255)) (hb : -1000 ≤ n ∧ n ≤ 1000) : Cs w mean mg mb 395 60 news True [.ref 248, .ref la] (fun t => .str (Str.ofString "error FC") t) := by
  have key : Cs w mean mg mb 395 60 news True [.ref 248, .ref la] (Out.err "FC").told := by
    refine heard (by show _ ≤ 100; decide) (by k_is) (fun wd d es c tb ub hbt hdg => ?_)
    have q := Ct.up (c_chr (w := w) (mean := mean) (mg := mg) (mb := mb) (news := (wd, W.instObj 372 d) :: (d, dictOf es c) :: news) (wv := .ref wd)) (by decide : _ ≤ 40) ⟨tl2 hm, hb⟩
    rw [if_neg hn] at q
    exact q
  exact key
theorem h_asc {w : World} {mean : ExcName → Option Value} {mg mb : Str → Option Value} {news : List (Addr × Obj)} {la : Addr} {cc : Nat} {c : Nat} {t : Tok} (hm : (la, W.listOf #[.str (St [c]) t] cc) ∈ news)  : Cs w mean mg mb 395 60 news True [.ref 227, .ref la] (fun t => .int (c : Int) t) := by
  have key : Cs w mean mg mb 395 60 news True [.ref 227, .ref la] (Out.val (fun t => .int (c : Int) t)).told := by
    refine heard trivial (by k_is) (fun wd d es c tb ub hbt hdg => ?_)
    exact Ct.up (c_asc (w := w) (mean := mean) (mg := mg) (mb := mb) (news := (wd, W.instObj 372 d) :: (d, dictOf es c) :: news) (wv := .ref wd)) (by decide : _ ≤ 40) ⟨tl2 hm, rfl⟩
  exact key
theorem h_asc_x {w : World} {mean : ExcName → Option Value} {mg mb : Str → Option Value} {news : List (Addr × Obj)} {la : Addr} {cc : Nat} {t : Tok} (hm : (la, W.listOf #[.str (Str.ofString "") t] cc) ∈ news)  : Cs w mean mg mb 395 60 news True [.ref 227, .ref la] (fun t => .str (Str.ofString "error FC") t) := by
  have key : Cs w mean mg mb 395 60 news True [.ref 227, .ref la] (Out.err "FC").told := by
    refine heard (by show _ ≤ 100; decide) (by k_is) (fun wd d es c tb ub hbt hdg => ?_)
    exact Ct.up (c_asc_x (w := w) (mean := mean) (mg := mg) (mb := mb) (news := (wd, W.instObj 372 d) :: (d, dictOf es c) :: news) (wv := .ref wd)) (by decide : _ ≤ 40) (tl2 hm)
  exact key
theorem h_string_i {w : World} {mean : ExcName → Option Value} {mg mb : Str → Option Value} {news : List (Addr × Obj)} {la : Addr} {cc : Nat} {n k : Int} {t u : Tok} (hm : (la, W.listOf #[.int n t, .int k u] cc) ∈ news) (hn : (0 ≤ n ∧ n ≤ 10) ∧ 0 ≤ k ∧ k ≤ 255) : Cs w mean mg mb 395 60 news True [.ref 295, .ref la] (fun t => .str (St (List.replicate n.toNat k.toNat)) t) := by
  have key : Cs w mean mg mb 395 60 news True [.ref 295, .ref la] (Out.val (fun t => .str (St (List.replicate n.toNat k.toNat)) t)).told := by
    refine heard trivial (by k_is) (fun wd d es c tb ub hbt hdg => ?_)
    exact Ct.up (c_string_i (w := w) (mean := mean) (mg := mg) (mb := mb) (news := (wd, W.instObj 372 d) :: (d, dictOf es c) :: news) (wv := .ref wd)) (by decide : _ ≤ 40) ⟨tl2 hm, hn.1.1, hn.1.2, hn.2.1, hn.2.2⟩
  exact key
theorem h_string_s {w : World} {mean : ExcName → Option Value} {mg mb : Str → Option Value} {news : List (Addr × Obj)} {la : Addr} {cc : Nat} {x : Str} {n : Int} {t u : Tok} (hm : (la, W.listOf #[.int n t, .str x u] cc) ∈ news) (hn : 0 ≤ n ∧ n ≤ 10) (hx : x.length = 2) : Cs w mean mg mb 395 60 news True [.ref 295, .ref la] (fun t => .str (St (List.replicate n.toNat ((cd x).getD 0 0))) t) := by
  have key : Cs w mean mg mb 395 60 news True [.ref 295, .ref la] (Out.val (fun t => .str (St (List.replicate n.toNat ((cd x).getD 0 0))) t)).told := by
    refine heard trivial (by k_is) (fun wd d es c tb ub hbt hdg => ?_)
    exact Ct.up (c_string_s (w := w) (mean := mean) (mg := mg) (mb := mb) (news := (wd, W.instObj 372 d) :: (d, dictOf es c) :: news) (wv := .ref wd)) (by decide : _ ≤ 40) ⟨tl2 hm, hn.1, hn.2, hx⟩
  exact key
theorem h_space {w : World} {mean : ExcName → Option Value} {mg mb : Str → Option Value} {news : List (Addr × Obj)} {la : Addr} {cc : Nat} {n : Int} {t : Tok} (hm : (la, W.listOf #[.int n t] cc) ∈ news) (hn : 0 ≤ n ∧ n ≤ 10) : Cs w mean mg mb 395 60 news True [.ref 288, .ref la] (fun t => .str (St (List.replicate n.toNat 32)) t) := by
  have key : Cs w mean mg mb 395 60 news True [.ref 288, .ref la] (Out.val (fun t => .str (St (List.replicate n.toNat 32)) t)).told := by
    refine heard trivial (by k_is) (fun wd d es c tb ub hbt hdg => ?_)
    exact Ct.up (c_space (w := w) (mean := mean) (mg := mg) (mb := mb) (news := (wd, W.instObj 372 d) :: (d, dictOf es c) :: news) (wv := .ref wd)) (by decide : _ ≤ 40) ⟨tl2 hm, hn.1, hn.2⟩
  exact key
theorem h_xlate {w : World} {mean : ExcName → Option Value} {mg mb : Str → Option Value} {news : List (Addr × Obj)} {la : Addr} {cc : Nat} {x y : Str} {t u : Tok} (hm : (la, W.listOf #[.str x t, .str y u] cc) ∈ news) (hl : x.length ≤ 100) (hy : y.length ≤ 100) : Cs w mean mg mb 395 60 news True [.ref 354, .ref la] (fun t => .str (St (ledAll y (cd x))) t) := by
  have key : Cs w mean mg mb 395 60 news True [.ref 354, .ref la] (Out.val (fun t => .str (St (ledAll y (cd x))) t)).told := by
    refine heard trivial (by k_is) (fun wd d es c tb ub hbt hdg => ?_)
    exact Ct.up (c_xlate (w := w) (mean := mean) (mg := mg) (mb := mb) (news := (wd, W.instObj 372 d) :: (d, dictOf es c) :: news) (wv := .ref wd)) (by decide : _ ≤ 40) ⟨tl2 hm, hl, hy⟩
  exact key
theorem h_edit {w : World} {mean : ExcName → Option Value} {mg mb : Str → Option Value} {news : List (Addr × Obj)} {la : Addr} {cc : Nat} {x : Str} {n : Int} {t u : Tok} (hm : (la, W.listOf #[.str x t, .int n u] cc) ∈ news) (hl : x.length ≤ 100) (hal : ∀ c ∈ cd x, c ≤ 255) (h1 : Builtin.bitAnd n 1 = 0) (h4 : Builtin.bitAnd n 4 = 0) (hn : 0 ≤ n ∧ n < 512) : Cs w mean mg mb 395 60 news True [.ref 347, .ref la] (fun t => .str (St (edOut n (cd x))) t) := by
  have key : Cs w mean mg mb 395 60 news True [.ref 347, .ref la] (Out.val (fun t => .str (St (edOut n (cd x))) t)).told := by
    refine heard trivial (by k_is) (fun wd d es c tb ub hbt hdg => ?_)
    exact Ct.up (c_edit (w := w) (mean := mean) (mg := mg) (mb := mb) (news := (wd, W.instObj 372 d) :: (d, dictOf es c) :: news) (wv := .ref wd)) (by decide : _ ≤ 40) ⟨tl2 hm, hl, hal, h1, h4, hn.1, hn.2⟩
  exact key
theorem h_edit_x {w : World} {mean : ExcName → Option Value} {mg mb : Str → Option Value} {news : List (Addr × Obj)} {la : Addr} {cc : Nat} {x : Str} {t u : Tok} (hm : (la, W.listOf #[.str x t, .int 512 u] cc) ∈ news)  : Cs w mean mg mb 395 60 news True [.ref 347, .ref la] (fun t => .str (Str.ofString "error FC") t) := by
  have key : Cs w mean mg mb 395 60 news True [.ref 347, .ref la] (Out.err "FC").told := by
    refine heard (by show _ ≤ 100; decide) (by k_is) (fun wd d es c tb ub hbt hdg => ?_)
    exact Ct.up (c_edit_x (w := w) (mean := mean) (mg := mg) (mb := mb) (news := (wd, W.instObj 372 d) :: (d, dictOf es c) :: news) (wv := .ref wd)) (by decide : _ ≤ 40) (tl2 hm)
  exact key
end Mine
end
section
namespace Mine
theorem h_hex_v {w : World} {mean : ExcName → Option Value} {mg mb : Str → Option Value} {news : List (Addr × Obj)} {la : Addr} {cc : Nat} {n : Int} {t : Tok} (hm : (la, W.listOf #[.int n t] cc) ∈ news) (hn : -32768 ≤ n ∧ n ≤ 65535) : Cs w mean mg mb 395 60 news True [.ref 309, .ref la] (fun t => .str (St (inb 16 (n % 65536).toNat)) t) := by
  have key : Cs w mean mg mb 395 60 news True [.ref 309, .ref la] (Out.val (fun t => .str (St (inb 16 (n % 65536).toNat)) t)).told := by
    refine heard trivial (by k_is) (fun wd d es c tb ub hbt hdg => ?_)
    have q := Ct.up (c_hex (w := w) (mean := mean) (mg := mg) (mb := mb) (news := news) (wd := wd) (d := d) (es := es) (cap := c)) (by decide : _ ≤ 40) ⟨hbt, hm, by omega, by omega⟩
    rw [if_pos hn] at q
    exact q
  exact key
theorem h_hex_x {w : World} {mean : ExcName → Option Value} {mg mb : Str → Option Value} {news : List (Addr × Obj)} {la : Addr} {cc : Nat} {n : Int} {t : Tok} (hm : (la, W.listOf #[.int n t] cc) ∈ news) (hn : ¬ (-32768 ≤ n ∧ n ≤ 65535)) (hb : -40000 ≤ n ∧ n ≤ 70000) : Cs w mean mg mb 395 60 news True [.ref 309, .ref la] (fun t => .str (Str.ofString "error OV") t) := by
  have key : Cs w mean mg mb 395 60 news True [.ref 309, .ref la] (Out.err "OV").told := by
    refine heard (by show _ ≤ 100; decide) (by k_is) (fun wd d es c tb ub hbt hdg => ?_)
    have q := Ct.up (c_hex (w := w) (mean := mean) (mg := mg) (mb := mb) (news := news) (wd := wd) (d := d) (es := es) (cap := c)) (by decide : _ ≤ 40) ⟨hbt, hm, hb⟩
    rw [if_neg hn] at q
    exact q
  exact key
theorem h_oct_v {w : World} {mean : ExcName → Option Value} {mg mb : Str → Option Value} {news : List (Addr × Obj)} {la : Addr} {cc : Nat} {n : Int} {t : Tok} (hm : (la, W.listOf #[.int n t] cc) ∈ news) (hn : -32768 ≤ n ∧ n ≤ 65535) : Cs w mean mg mb 395 60 news True [.ref 316, .ref la] (fun t => .str (St (inb 8 (n % 65536).toNat)) t) := by
  have key : Cs w mean mg mb 395 60 news True [.ref 316, .ref la] (Out.val (fun t => .str (St (inb 8 (n % 65536).toNat)) t)).told := by
    refine heard trivial (by k_is) (fun wd d es c tb ub hbt hdg => ?_)
    have q := Ct.up (c_oct (w := w) (mean := mean) (mg := mg) (mb := mb) (news := news) (wd := wd) (d := d) (es := es) (cap := c)) (by decide : _ ≤ 40) ⟨hbt, hm, by omega, by omega⟩
    rw [if_pos hn] at q
    exact q
  exact key
theorem h_oct_x {w : World} {mean : ExcName → Option Value} {mg mb : Str → Option Value} {news : List (Addr × Obj)} {la : Addr} {cc : Nat} {n : Int} {t : Tok} (hm : (la, W.listOf #[.int n t] cc) ∈ news) (hn : ¬ (-32768 ≤ n ∧ n ≤ 65535)) (hb : -40000 ≤ n ∧ n ≤ 70000) : Cs w mean mg mb 395 60 news True [.ref 316, .ref la] (fun t => .str (Str.ofString "error OV") t) := by
  have key : Cs w mean mg mb 395 60 news True [.ref 316, .ref la] (Out.err "OV").told := by
    refine heard (by show _ ≤ 100; decide) (by k_is) (fun wd d es c tb ub hbt hdg => ?_)
    have q := Ct.up (c_oct (w := w) (mean := mean) (mg := mg) (mb := mb) (news := news) (wd := wd) (d := d) (es := es) (cap := c)) (by decide : _ ≤ 40) ⟨hbt, hm, hb⟩
    rw [if_neg hn] at q
    exact q
  exact key
theorem h_hex_tm {w : World} {mean : ExcName → Option Value} {mg mb : Str → Option Value} {news : List (Addr × Obj)} {la : Addr} {cc : Nat} {x : Str} {t : Tok} (hm : (la, W.listOf #[.str x t] cc) ∈ news)  : Cs w mean mg mb 395 60 news True [.ref 309, .ref la] (fun t => .str (Str.ofString "error TM") t) := by
  have key : Cs w mean mg mb 395 60 news True [.ref 309, .ref la] (Out.err "TM").told := by
    refine heard (by show _ ≤ 100; decide) (by k_is) (fun wd d es c tb ub hbt hdg => ?_)
    have q := Ct.up (c_hex_tm (w := w) (mean := mean) (mg := mg) (mb := mb) (news := news) (wd := wd) (d := d) (es := es) (cap := c)) (by decide : _ ≤ 40) hm
    exact q
  exact key
theorem h_str {w : World} {mean : ExcName → Option Value} {mg mb : Str → Option Value} {news : List (Addr × Obj)} {la : Addr} {cc : Nat} {n : Int} {t : Tok} (hm : (la, W.listOf #[.int n t] cc) ∈ news) (hb : -40000 ≤ n ∧ n ≤ 40000) : Cs w mean mg mb 395 60 news True [.ref 281, .ref la] (fun t => .str (St ((if n < 0 then 45 else 32) :: inb 10 n.natAbs)) t) := by
  have key : Cs w mean mg mb 395 60 news True [.ref 281, .ref la] (Out.val (fun t => .str (St ((if n < 0 then 45 else 32) :: inb 10 n.natAbs)) t)).told := by
    refine heard trivial (by k_is) (fun wd d es c tb ub hbt hdg => ?_)
    have q := Ct.up (c_str (w := w) (mean := mean) (mg := mg) (mb := mb) (news := news) (wd := wd) (d := d) (es := es) (cap := c)) (by decide : _ ≤ 40) ⟨hdg, hm, hb⟩
    exact q
  exact key
end Mine
end
section
namespace Mine
theorem h_val_neg {w : World} {mean : ExcName → Option Value} {mg mb : Str → Option Value} {news : List (Addr × Obj)} {la : Addr} {cc : Nat} {n p1 p2 : Int} {x : Str} {t : Tok} (hm : (la, W.listOf #[.str x t] cc) ∈ news) (hb : (x.length ≤ 100 ∧ p1 = (nb x + 1) ∧ p1 ≤ (x.length : Int) ∧ p2 = p1 + ((dsOf x p1).length : Int) ∧ p2 ≤ (x.length : Int) ∧ 1 ≤ (dsOf x p1).length ∧ (dsOf x p1).length ≤ 6 ∧ valOf (dsOf x p1) = n ∧ 1 ≤ n ∧ n ≤ 65535 ∧ ((Txt.slice x (some p2) (some (p2 + 1)) == Str.ofString ".") = false) ∧ (p2 < (x.length : Int) → occ (Str.ofString "EeDd") (Txt.item x p2) = true) ∧ (Txt.slice x (some (nb x)) (some (nb x + 1)) == Str.ofString "-") = true)) : CsT w mean mg mb 395 60 news True [.ref 234, .ref la] (PairOf (0 - n)) :=
  heardT (by k_is) (fun wd d es c tb ub hbt hdg => Ct.up (c_val_neg (w := w) (mean := mean) (mg := mg) (mb := mb) (news := news) (wd := wd) (d := d) (es := es) (cap := c)) (by decide : _ ≤ 40) ⟨hdg, hm, hb⟩)
theorem h_val_pos {w : World} {mean : ExcName → Option Value} {mg mb : Str → Option Value} {news : List (Addr × Obj)} {la : Addr} {cc : Nat} {n p1 p2 : Int} {x : Str} {t : Tok} (hm : (la, W.listOf #[.str x t] cc) ∈ news) (hb : (x.length ≤ 100 ∧ p1 = (nb x) ∧ p1 ≤ (x.length : Int) ∧ p2 = p1 + ((dsOf x p1).length : Int) ∧ p2 ≤ (x.length : Int) ∧ 1 ≤ (dsOf x p1).length ∧ (dsOf x p1).length ≤ 6 ∧ valOf (dsOf x p1) = n ∧ 1 ≤ n ∧ n ≤ 65535 ∧ ((Txt.slice x (some p2) (some (p2 + 1)) == Str.ofString ".") = false) ∧ (p2 < (x.length : Int) → occ (Str.ofString "EeDd") (Txt.item x p2) = true) ∧ (Txt.slice x (some (nb x)) (some (nb x + 1)) == Str.ofString "-") = false ∧ (Txt.slice x (some (nb x)) (some (nb x + 1)) == Str.ofString "+") = false)) : CsT w mean mg mb 395 60 news True [.ref 234, .ref la] (PairOf n) :=
  heardT (by k_is) (fun wd d es c tb ub hbt hdg => Ct.up (c_val_pos (w := w) (mean := mean) (mg := mg) (mb := mb) (news := news) (wd := wd) (d := d) (es := es) (cap := c)) (by decide : _ ≤ 40) ⟨hdg, hm, hb⟩)
theorem h_val_zero {w : World} {mean : ExcName → Option Value} {mg mb : Str → Option Value} {news : List (Addr × Obj)} {la : Addr} {cc : Nat} {n p1 p2 : Int} {x : Str} {t : Tok} (hm : (la, W.listOf #[.str x t] cc) ∈ news) (hb : (x.length ≤ 100 ∧ p1 = (nb x) ∧ p1 ≤ (x.length : Int) ∧ p2 = p1 + ((dsOf x p1).length : Int) ∧ p2 ≤ (x.length : Int) ∧ 1 ≤ (dsOf x p1).length ∧ (dsOf x p1).length ≤ 6 ∧ valOf (dsOf x p1) = n ∧ n = 0 ∧ ((Txt.slice x (some p2) (some (p2 + 1)) == Str.ofString ".") = false) ∧ (p2 < (x.length : Int) → occ (Str.ofString "EeDd") (Txt.item x p2) = true) ∧ (Txt.slice x (some (nb x)) (some (nb x + 1)) == Str.ofString "-") = false ∧ (Txt.slice x (some (nb x)) (some (nb x + 1)) == Str.ofString "+") = false)) : Cs w mean mg mb 395 60 news True [.ref 234, .ref la] (fun _ => .ref 73) := by
  have key : Cs w mean mg mb 395 60 news True [.ref 234, .ref la] (Out.val (fun _ => .ref 73)).told := by
    refine heard trivial (by k_is) (fun wd d es c tb ub hbt hdg => ?_)
    exact Ct.up (c_val_zero (w := w) (mean := mean) (mg := mg) (mb := mb) (news := news) (wd := wd) (d := d) (es := es) (cap := c)) (by decide : _ ≤ 40) ⟨hdg, hm, hb⟩
  exact key
theorem h_val_x1 {w : World} {mean : ExcName → Option Value} {mg mb : Str → Option Value} {news : List (Addr × Obj)} {la : Addr} {cc : Nat} {t : Tok} (hm : (la, W.listOf #[.str (Str.ofString "x1") t] cc) ∈ news) : CsT w mean mg mb 395 60 news True [.ref 234, .ref la] (fun a b => a = 0 ∧ b = 0) :=
  heardT (by k_is) (fun wd d es c tb ub hbt hdg => Ct.up (c_val_x1 (w := w) (mean := mean) (mg := mg) (mb := mb) (news := news) (wd := wd) (d := d) (es := es) (cap := c)) (by decide : _ ≤ 40) ⟨hdg, hm⟩)
end Mine
end
section
open PySem.Spec
namespace Mine
open PyProof.Rows.LCg (NsObj ns_obj lst lst_snoc Off3 Off1 CompEnd fr_but news_but FinE)
noncomputable def TurnP (prog : Program) (w : World) (A : Around) (h₀ : Heap) (L : Addr) (m : Str → Option Value) (env : Env) (c elt : PySem.Expr) (a b : Str) (scope : Scope) (cl : List (Str × Addr)) (s : Shared) (I J : Addr) (news : List (Addr × Obj)) (P : Nat → Value → Prop)
    (Inv : Nat → List Value → Prop) (n : Nat) : Prop :=
  ∀ i ys (t : Tok) x oI oJ C oC D m₂ h tk (E' : Value → Shared → Prop), i < n → Inv i ys → P i x → NsObj oC m₂ → m₂ a = some (.int i t) → m₂ b = some x → Fr h₀ L h m → News h₀ L h ((I, oI) :: (C, oC) :: (D, lst ys) :: (J, oJ) :: news) → Off3 I C D ((J, oJ) :: news) → ((@Ne Nat I C) ∧ (@Ne Nat I D) ∧ (@Ne Nat C D)) →
    wpAny (model prog w) A (isTrue c (compEnvC scope cl C env) (eval c (compEnvC scope cl C env))) (fun okb s₃ => if okb = true then
        wpAny (model prog w) A (eval elt (compEnvC scope cl C env)) (CompEnd h₀ L m { s with heap := h, toks := tk } I oI C oC D (lst ys) (fun nw => nw = (J, oJ) :: news) (fun y _ => Inv (i + 1) (ys ++ [y]))) E' s₃
        else CompEnd h₀ L m { s with heap := h, toks := tk } I oI C oC D (lst ys) (fun nw => nw = (J, oJ) :: news) (fun _ _ => Inv (i + 1) ys) .none s₃) E' { s with heap := h, toks := tk }
section
variable {prog : Program} {w : World} {A : Around} {E : Value → Shared → Prop} {s : Shared} {h₀ : Heap} {L : Addr} {m : Str → Option Value} {env : Env}
inductive CLoopE (h₀ : Heap) (L : Addr) (m : Str → Option Value) (I J C D : Addr) (n : Nat) (St : Nat → Heap → Prop) (news : List (Addr × Obj)) (Inv : Nat → List Value → Prop) (s₂ : Shared) : Nat → Shared → Prop
  | mk (h' : Heap) (tk i : Nat) (ys : List Value) (m' : Str → Option Value) (hi : i ≤ n) (st : (∃ old, IsEnum h' I J i old) ∧ St i h') (F : Fr h₀ L h' m) (N : h'.Ns C m') (W : News h₀ L h' ((D, lst ys) :: news)) (r : Inv i ys) :
    CLoopE h₀ L m I J C D n St news Inv s₂ (n + 1 - i) { s₂ with heap := h', toks := tk }
theorem enum_block {elt iter c : PySem.Expr} {a b : Str} {pa pb tp : Pos} {kk : Nat} {scope : Scope} {cl : List (Str × Addr)} {pos : Pos} {s₂ : Shared} {I J : Addr} {n : Nat} {P : Nat → Value → Prop} {St : Nat → Heap → Prop} {news : List (Addr × Obj)}
    {Inv : Nat → List Value → Prop} {RR : Value → Addr → Result → Shared → Prop}
    (hh : A.handled = none) (Dr : Draws prog w A.in1 J [J] n P St) (hIJ : I ≠ J) (hsz : n ≤ sizeLine) (hlen : ∀ i ys, Inv i ys → ys.length ≤ i)
    (hen : IsEnum s₂.heap I J 0 .none) (hst : St 0 s₂.heap)
    (hcell : ∀ y ∈ scope.names, y.2 ≠ .cell) (hkind : scope.kind = .function) (hxa : scope.names.lookup a = some .local) (hxb : scope.names.lookup b = some .local) (hab : ¬ a = b)
    (F : Fr h₀ L s₂.heap m) (N : News h₀ L s₂.heap news) (hIL : L ≠ I) (hJL : L ≠ J) (hI₀ : h₀.get? I = none) (hJ₀ : h₀.get? J = none) (off : ∀ p ∈ news, p.1 ≠ I ∧ p.1 ≠ J)
    (h0 : Inv 0 []) (turn : TurnP prog w A h₀ L m env c elt a b scope cl s₂ I J news P Inv n)
    (hRR : ∀ D C h tk m' ys, Fr h₀ L h m → News h₀ L h ((D, lst ys) :: news) → Off1 D news → h.Ns C m' → h₀.get? C = none → h₀.get? D = none → C ≠ L → D ≠ L → C ≠ D → (∀ p ∈ news, p.1 ≠ C) → Inv n ys → RR (.ref D) C (.ok .next) { s₂ with heap := h, toks := tk }) :
    wpAny (model prog w) A (newList []) (fun acc s₃ => wpAny (model prog w) A (newFunctionEnv scope env.globals cl [] env.qual none .none (some env)) (fun cenv s₄ =>
      codeAny (model prog w) A (.compStart (.ListComp elt [⟨.Tuple [.Name a pa, .Name b pb] kk tp, iter, [c], 0⟩] scope pos) 0 (.ref I) acc { cenv with scope := relabel scope env }) (RR acc cenv.locals) s₄) E s₃) E s₂ := by
  refine wpAny_newObj_type (wpAny_newFunctionEnv hcell (by intro y hy; simp at hy) (fun h₁ hns₁ hsb₁ => ?_) hkind)
  dsimp only at hns₁ hsb₁ ⊢
  generalize hH2 : s₂.heap.push { cls := .type "list", dict := none, data := .seq ([] : List Value).toArray } = H2 at hns₁ hsb₁ ⊢
  have hC : H2.objs.size = s₂.heap.objs.size + 1 := by rw [← hH2, Heap.size_push]
  have hDC : s₂.heap.objs.size ≠ H2.objs.size := by rw [hC]; exact Nat.ne_of_lt (Nat.lt_succ_self _)
  have below : ∀ b, b < s₂.heap.objs.size → b ≠ H2.objs.size ∧ b ≠ s₂.heap.objs.size := fun b hb => ⟨by rw [hC]; exact Nat.ne_of_lt (Nat.lt_succ_of_lt hb), Nat.ne_of_lt hb⟩
  have hIlt : I < s₂.heap.objs.size := Heap.lt_size hen
  have hJlt : J < s₂.heap.objs.size := by obtain ⟨_, e⟩ := Dr.live _ _ hst; exact Heap.lt_size e
  have old : ∀ b o, s₂.heap.get? b = some o → h₁.get? b = some o := fun b o e => hsb₁.extBut b o (below b (Heap.lt_size e)).1 (Heap.get?_push_of_some _ (hH2 ▸ Heap.get?_push_of_some _ e))
  have hacc : h₁.get? s₂.heap.objs.size = some (lst []) := hsb₁.extBut _ _ hDC (Heap.get?_push_of_some _ (hH2 ▸ Heap.get?_push_size _ rfl))
  have hen₁ : IsEnum h₁ I J 0 .none := old _ _ hen
  have hst₁ : St 0 h₁ := Dr.frame _ _ _ hst fun b _ o e => old b o e
  have fresh : ∀ a, s₂.heap.objs.size ≤ a → s₂.heap.get? a = none := fun a ha => by
    cases e : s₂.heap.get? a with
    | none => rfl
    | some o' => exact absurd (Heap.lt_size e) (Nat.not_lt.mpr ha)
  have fresh₀ : ∀ a, s₂.heap.objs.size ≤ a → h₀.get? a = none := fun a ha => by
    cases e : h₀.get? a with
    | none => rfl
    | some o' => have := F.keep a o' e; rw [fresh a ha] at this; cases this
  have hD₀ : h₀.get? s₂.heap.objs.size = none := fresh₀ _ (Nat.le_refl _)
  have hC₀ : h₀.get? H2.objs.size = none := fresh₀ _ (by rw [hC]; exact Nat.le_succ _)
  have hLlt : L < s₂.heap.objs.size := F.ns.lt
  have hDL : s₂.heap.objs.size ≠ L := Ne.symm (below L hLlt).2
  have hCL : H2.objs.size ≠ L := Ne.symm (below L hLlt).1
  have hCI : I ≠ H2.objs.size := (below I hIlt).1
  have hDI : I ≠ s₂.heap.objs.size := (below I hIlt).2
  have hCJ : J ≠ H2.objs.size := (below J hJlt).1
  have hDJ : J ≠ s₂.heap.objs.size := (below J hJlt).2
  have offN : ∀ p ∈ news, p.1 ≠ H2.objs.size ∧ p.1 ≠ s₂.heap.objs.size := fun p hp => below _ (Heap.lt_size (N p hp).1)
  have off3 : ∀ oJ : Obj, Off3 I H2.objs.size s₂.heap.objs.size ((J, oJ) :: news) := fun oJ => Off3.of fun p hp => by
    rcases List.mem_cons.mp hp with rfl | hp
    · exact ⟨Ne.symm hIJ, hCJ, hDJ⟩
    · exact ⟨(off p hp).1, (offN p hp).1, (offN p hp).2⟩
  have W := WalksT.enumerateD Dr I hIJ (by simpa using hIJ) (by simp)
  have loop : ∀ s₃ : Shared, s₃ = { s₂ with heap := h₁, toks := s₂.toks + ([] : List (Str × Value)).length } →
      codeAny (model prog w) A (.compLoop (.ListComp elt [⟨.Tuple [.Name a pa, .Name b pb] kk tp, iter, [c], 0⟩] scope pos) 0 (.ref I) (.ref s₂.heap.objs.size) (compEnvC scope cl H2.objs.size env))
        (RR (.ref s₂.heap.objs.size) H2.objs.size) s₃ := by
    rintro s₃ rfl
    refine kct_loop
      (CLoopE h₀ L m I J H2.objs.size s₂.heap.objs.size n St news Inv s₂) ?_ (n + 1)
      (.mk h₁ _ 0 [] _ (Nat.zero_le _) ⟨⟨_, hen₁⟩, hst₁⟩ (F.keeps old) hns₁ (fun p hp => ?_) h0)
    · rintro _ _ ⟨h', tk, i, ys, m', hi, hst', F', hn', N', R'⟩
      by_cases hlt : i < n
      · refine W.item i _ _ _ hlt hst' fun T vals h₂ tk₂ hP hTn hT hMd hk₂ => ?_
        obtain ⟨t, x, hPx, rfl⟩ := hP
        have hTw := W.apart _ _ _ hMd
        refine W.go _ _ _ i T _ _ _ hMd fun h₃ hst₃ hk₃ => ?_
        have hT₃ : h₃.IsTuple T #[.int i t, x] := by obtain ⟨o, e, r⟩ := hT; exact ⟨o, hk₃ _ _ hTw e, r⟩
        have up₃ : ∀ c o, c ≠ I → c ≠ J → h'.get? c = some o → h₃.get? c = some o := fun c o hc hd e => hk₃ c o (by simp [hc, hd]) (hk₂ c o (by simp [hc, hd]) e)
        refine kcp_assign (env := compEnvC scope cl H2.objs.size env) hh hT₃ (lookup_relabel_local hxa) (lookup_relabel_local hxb) (by simp [compEnvC, relabel, hkind]) (hn'.at' fun o e => up₃ _ o (Ne.symm hCI) (Ne.symm hCJ) e) fun h₄ tk₄ hn₄ hs₄ => ?_
        have up : ∀ c o, c ≠ I → c ≠ J → c ≠ H2.objs.size → h'.get? c = some o → h₄.get? c = some o := fun c o h1 h2 h3 e => hs₄ c o h3 (up₃ c o h1 h2 e)
        have hst₄ : (∃ old, IsEnum h₄ I J (i + 1) old) ∧ St (i + 1) h₄ := by
          refine ⟨?_, Dr.frame _ _ _ hst₃.2 fun b hb o e => hs₄ b o (by rw [List.mem_singleton.mp hb]; exact hCJ) e⟩
          obtain ⟨old', e⟩ := hst₃.1
          exact ⟨old', hs₄ I _ hCI (by simpa using e)⟩
        obtain ⟨oI, heI, hoI⟩ : ∃ oI : Obj, h₄.get? I = some oI ∧ ∀ h : Heap, h.get? I = some oI → ∃ old, IsEnum h I J ((i + 1 : Nat) : Int) old := by
          obtain ⟨old', e⟩ := hst₄.1
          exact ⟨_, e, fun _ e' => ⟨old', by simpa using e'⟩⟩
        obtain ⟨oJ, heJ⟩ := Dr.live _ _ hst₄.2
        obtain ⟨oC, heC, hoC⟩ := ns_obj hn₄
        have F₄ : Fr h₀ L h₄ m := ⟨F'.ns.at' fun o e => up _ o hIL hJL (Ne.symm hCL) e, fun c o e => up c o (fun q => by rw [q, hI₀] at e; cases e) (fun q => by rw [q, hJ₀] at e; cases e) (fun q => by rw [q, hC₀] at e; cases e) (F'.keep c o e), F'.above⟩
        have N₄ : News h₀ L h₄ ((I, oI) :: (H2.objs.size, oC) :: (s₂.heap.objs.size, lst ys) :: (J, oJ) :: news) := fun q hq => by
          rcases List.mem_cons.mp hq with rfl | hq
          · exact ⟨heI, Ne.symm hIL, hI₀⟩
          rcases List.mem_cons.mp hq with rfl | hq
          · exact ⟨heC, hCL, hC₀⟩
          rcases List.mem_cons.mp hq with rfl | hq
          · have z := N' _ List.mem_cons_self
            exact ⟨up _ _ (Ne.symm hDI) (Ne.symm hDJ) hDC z.1, z.2⟩
          rcases List.mem_cons.mp hq with rfl | hq
          · exact ⟨heJ, Ne.symm hJL, hJ₀⟩
          · have z := N' q (List.mem_cons_of_mem _ hq)
            exact ⟨up _ _ (off q hq).1 (off q hq).2 (offN q hq).1 z.1, z.2⟩
        have fin : ∀ (ys' : List Value) (y : Value) (s₅ : Shared), CompEnd h₀ L m { s₂ with heap := h₄, toks := tk₄ } I oI H2.objs.size oC s₂.heap.objs.size (lst ys) (fun nw => nw = (J, oJ) :: news) (fun _ _ => Inv (i + 1) ys') y s₅ →
            ∃ h₅ tk₅, s₅ = { s₂ with heap := h₅, toks := tk₅ } ∧ Fr h₀ L h₅ m ∧ (∃ m₅, h₅.Ns H2.objs.size m₅) ∧ News h₀ L h₅ ((s₂.heap.objs.size, lst ys) :: news) ∧ ((∃ old, IsEnum h₅ I J ((i + 1 : Nat) : Int) old) ∧ St (i + 1) h₅) ∧ h₅.get? I = some oI ∧ h₅.get? J = some oJ ∧ Inv (i + 1) ys' := by
          intro ys' y s₅ h₅
          obtain ⟨h₅, tk₅, news₅, rfl, F₅, N₅, off₅, rfl, R₅⟩ := h₅
          have zI := (N₅ (I, oI) List.mem_cons_self).1
          have zC := (N₅ (H2.objs.size, oC) (List.mem_cons_of_mem _ List.mem_cons_self)).1
          have zJ := (N₅ (J, oJ) (List.mem_cons_of_mem _ (List.mem_cons_of_mem _ (List.mem_cons_of_mem _ List.mem_cons_self)))).1
          refine ⟨h₅, tk₅, rfl, F₅, ⟨_, hoC.ns zC⟩, fun q hq => ?_, ⟨hoI h₅ zI, Dr.frame _ _ _ hst₄.2 fun b hb o e => ?_⟩, zI, zJ, R₅⟩
          · rcases List.mem_cons.mp hq with rfl | hq
            · exact N₅ _ (List.mem_cons_of_mem _ (List.mem_cons_of_mem _ List.mem_cons_self))
            · exact N₅ _ (List.mem_cons_of_mem _ (List.mem_cons_of_mem _ (List.mem_cons_of_mem _ (List.mem_cons_of_mem _ hq))))
          · rw [List.mem_singleton.mp hb] at e ⊢
            rw [heJ] at e
            rw [zJ, e]
        refine wpAny_mono (turn i ys t x oI oJ H2.objs.size oC s₂.heap.objs.size _ h₄ _ _ hlt R' hPx hoC (by simp [hab]) (by simp) F₄ N₄ (off3 oJ) ⟨hCI, hDI, Ne.symm hDC⟩) (fun okb s₅ h₅ => ?_) fun _ _ e => e
        cases okb with
        | false =>
          refine ite_fi ?_
          obtain ⟨g₅, tk₅, rfl, F₅, ⟨m₅, n₅⟩, N₅, st₅, _, _, R₅⟩ := fin ys .none _ (ite_f h₅)
          exact ⟨n + 1 - (i + 1), by omega, .mk g₅ tk₅ (i + 1) ys m₅ hlt st₅ F₅ n₅ N₅ R₅⟩
        | true =>
          refine ite_ti ?_
          refine wpAny_mono (ite_t h₅) (fun y s₆ h₆ => ?_) fun _ _ e => e
          obtain ⟨h₅, tk₅, rfl, F₅, ⟨m₅, n₅⟩, N₅, st₅, zI, zJ, R₅⟩ := fin (ys ++ [y]) y _ h₆
          have zD := (N₅ (s₂.heap.objs.size, lst ys) List.mem_cons_self).1
          have hyl := hlen _ _ R'
          refine append_at (hsz := by show ys.toArray.size ≤ sizeLine; rw [List.size_toArray]; exact Nat.le_trans hyl (Nat.le_trans hi hsz)) zD fun h₆ hs₆ hD₆ => ?_
          refine ⟨n + 1 - (i + 1), by omega, .mk h₆ tk₅ (i + 1) (ys ++ [y]) _ hlt ⟨hoI _ (hs₆.extBut _ _ hDI zI), Dr.frame _ _ _ st₅.2 fun b hb o e => hs₆.extBut b o (by rw [List.mem_singleton.mp hb]; exact hDJ) e⟩
            (F₅.change hs₆ hDL hD₀) (n₅.sameBut hs₆ (Ne.symm hDC)) (fun p hp => ?_) R₅⟩
          rcases List.mem_cons.mp hp with rfl | hp
          · exact ⟨hD₆.trans (congrArg some (lst_snoc ys y)), hDL, hD₀⟩
          · exact ⟨hs₆.extBut _ _ (offN p hp).2 (N₅ p (List.mem_cons_of_mem _ hp)).1, (N₅ p (List.mem_cons_of_mem _ hp)).2⟩
      · obtain rfl : i = n := Nat.le_antisymm hi (Nat.not_lt.mp hlt)
        refine W.done _ _ _ hst' fun h₂ tk₂ hk₂ => ?_
        have up : ∀ c o, c ≠ I → c ≠ J → h'.get? c = some o → h₂.get? c = some o := fun c o hc hd e => hk₂ c o (by simp [hc, hd]) e
        refine hRR _ _ h₂ tk₂ _ ys ⟨F'.ns.at' fun o e => up _ o hIL hJL e, fun c o e => up c o (fun q => by rw [q, hI₀] at e; cases e) (fun q => by rw [q, hJ₀] at e; cases e) (F'.keep c o e), F'.above⟩ (fun p hp => ?_) ?_ (hn'.at' fun o e => up _ o (Ne.symm hCI) (Ne.symm hCJ) e) hC₀ hD₀ hCL hDL (Ne.symm hDC) (fun p hp => (offN p hp).1) R'
        · rcases List.mem_cons.mp hp with rfl | hp
          · exact ⟨up _ _ (Ne.symm hDI) (Ne.symm hDJ) (N' _ List.mem_cons_self).1, (N' _ List.mem_cons_self).2⟩
          · exact ⟨up _ _ (off p hp).1 (off p hp).2 (N' _ (List.mem_cons_of_mem _ hp)).1, (N' _ (List.mem_cons_of_mem _ hp)).2⟩
        · have o3 := off3 default
          exact (Off3.one o3).2
    · rcases List.mem_cons.mp hp with rfl | hp
      · exact ⟨hacc, hDL, hD₀⟩
      · exact ⟨old _ _ (N p hp).1, (N p hp).2⟩
  exact codeAny_compStart_list (loop _ rfl) (W.self 0 _ _ _ ⟨⟨_, hen₁⟩, hst₁⟩ (loop _ rfl))
inductive ESrc (prog : Program) (w : World) (A : Around) (h₀ : Heap) (L : Addr) (m : Str → Option Value) (env : Env) (c elt : PySem.Expr) (a b : Str) (scope : Scope) (cl : List (Str × Addr)) (Q : Value → Shared → Prop) (xv : Value) (s₁ : Shared) : Prop where
  | mk (I J : Addr) (y : Str) (t : Tok) (news : List (Addr × Obj)) (Inv : Nat → List Value → Prop) (h1 : xv = .ref I) (h2 : A.handled = none) (h3 : Fr h₀ L s₁.heap m) (h4 : News h₀ L s₁.heap news) (h5 : IsEnum s₁.heap I J 0 .none) (h6 : s₁.heap.IsStrIter J (strIterType y) y t 0) (h7 : I ≠ J) (h8 : L ≠ I) (h9 : L ≠ J) (h10 : h₀.get? I = none) (h11 : h₀.get? J = none) (h12 : (∀ p ∈ news, p.1 ≠ I ∧ p.1 ≠ J)) (h13 : y.cps.size ≤ sizeLine) (h14 : (∀ i ys, Inv i ys → ys.length ≤ i)) (h15 : Inv 0 []) (h16 : TurnP prog w A h₀ L m env c elt a b scope cl s₁ I J news (SignAt y) Inv y.cps.size) (h17 : (∀ ys, Inv y.cps.size ys → FinE h₀ L m s₁ Q ys news))
theorem ESrc.of {c elt : PySem.Expr} {a b : Str} {scope : Scope} {cl : List (Str × Addr)} {Q : Value → Shared → Prop} {y : Str} {t : Tok} {news : List (Addr × Obj)} (Inv : Nat → List Value → Prop) (hh : A.handled = none) (F : Fr h₀ L s.heap m) (N : News h₀ L s.heap news)
    (hsz : y.cps.size ≤ sizeLine) (hlen : ∀ i ys, Inv i ys → ys.length ≤ i) (h0 : Inv 0 [])
    (turn : ∀ g I J, TurnP prog w A h₀ L m env c elt a b scope cl { s with heap := g } I J news (SignAt y) Inv y.cps.size) (fin : ∀ g ys, Inv y.cps.size ys → FinE h₀ L m { s with heap := g } Q ys news) :
    wpAny (model prog w) A (call (.type "enumerate") [.str y t]) (ESrc prog w A h₀ L m env c elt a b scope cl Q) E s := by
  refine call_enumerate_str fun h' he hit hz hk => ?_
  have hLs : L < s.heap.objs.size := F.ns.lt
  have hab : h₀.objs.size ≤ L := F.above
  refine ⟨_, _, y, t, news, Inv, rfl, hh, F.keeps hk, N.grown hk, he, hit, Nat.succ_ne_self _, Nat.ne_of_lt (Nat.lt_succ_of_lt hLs), Nat.ne_of_lt hLs, Heap.get?_none_of_le (Nat.le_trans hab (Nat.le_of_lt (Nat.lt_succ_of_lt hLs))), Heap.get?_none_of_le (Nat.le_trans hab (Nat.le_of_lt hLs)), fun p hp => ?_, hsz, hlen, h0, turn _ _ _, fun ys hi => fin _ _ hi⟩
  have hp1 : p.1 < s.heap.objs.size := Heap.lt_size (N p hp).1
  exact ⟨Nat.ne_of_lt (Nat.lt_succ_of_lt hp1), Nat.ne_of_lt hp1⟩
theorem enum_comp {elt iter c : PySem.Expr} {a b : Str} {pa pb tp : Pos} {kk : Nat} {scope : Scope} {cl : List (Str × Addr)} {pos : Pos} {Q : Value → Shared → Prop} (_F₀ : Fr h₀ L s.heap m)
    (hclos : closureFor scope env = pure cl) (hcell : ∀ y ∈ scope.names, y.2 ≠ .cell) (hkind : scope.kind = .function)
    (hnames : ∀ y ∈ scope.names, y.2 = .local → scope.names.lookup y.1 = some .local) (hxa : scope.names.lookup a = some .local) (hxb : scope.names.lookup b = some .local) (hab : ¬ a = b)
    (h : wpAny (model prog w) A (eval iter env) (ESrc prog w A h₀ L m env c elt a b scope cl Q) E s)
    (hs : ∀ x, foldedSetIterable iter env x = pure x := by intro _; rfl) :
    wpAny (model prog w) A (eval (.ListComp elt [⟨.Tuple [.Name a pa, .Name b pb] kk tp, iter, [c], 0⟩] scope pos) env) Q E s := by
  rw [eval_ListComp]
  refine wpAny_comprehension_free (use := none) rfl hs hclos hkind hnames (wpAny_mono h (fun xv s₁ h₁ => ?_) fun _ _ e => e)
  refine hideG ?_
  intro GG
  obtain ⟨I, J, y, t, news, Inv, rfl, hh, F, N, he, hit, hIJ, hIL, hJL, hI₀, hJ₀, off, hsz, hlen, h0, turn, fin⟩ := h₁
  k_unfold
  refine wpAny_pyIter_enum he ?_
  have key : ∀ St : Nat → Heap → Prop, Draws prog w A.in1 J [J] y.cps.size (SignAt y) St → St 0 s₁.heap → wpAny (model prog w) A (newList []) (fun acc s₃ => wpAny (model prog w) A (newFunctionEnv scope env.globals cl [] env.qual none .none (some env)) (fun cenv s₄ =>
      codeAny (model prog w) A (.compStart (.ListComp elt [⟨.Tuple [.Name a pa, .Name b pb] kk tp, iter, [c], 0⟩] scope pos) 0 (.ref I) acc { cenv with scope := relabel scope env }) (compPost (model prog w) A E none Q acc cenv.locals) s₄) E s₃) E s₁ := fun St Dr st => by
    refine enum_block (RR := fun acc C => compPost (model prog w) A E none Q acc C) hh Dr hIJ hsz hlen he st hcell hkind hxa hxb hab F N hIL hJL hI₀ hJ₀ off h0 turn ?_
    intro D C h tk m' ys F' N' o1 hn hC₀ hD₀ hCL hDL hCD offC hi
    refine ⟨m', hn, fun h'' hs'' => fin ys hi D h'' tk (F'.change hs'' hCL hC₀) (fun p hp => ?_) o1⟩
    refine ⟨hs''.extBut _ _ ?_ (N' p hp).1, (N' p hp).2⟩
    rcases List.mem_cons.mp hp with rfl | hp
    · exact Ne.symm hCD
    · exact offC p hp
  cases ha : y.cps.all (· < 128)
  · exact key _ (Draws.strWide (A := A.in1) hh J y t) (by simpa [strIterType, ha] using hit)
  · exact key _ (Draws.strAscii (A := A.in1) hh J y t) (by simpa [strIterType, ha] using hit)
end
end Mine
end
section
open PySem.Spec
namespace Mine
open AutoSeq1 (wpAny_loadPart')
section
variable {prog : Program} {w : World} {A : Around} {E : Value → Shared → Prop} {s : Shared}
theorem range_place (a b k : Int) : (Builtin.Range.rangePlace? a b 1 k).isSome = (decide (a ≤ k) && decide (k < b)) := by
  unfold Builtin.Range.rangePlace?
  simp only [Int.emod_one, if_pos (show (1 : Int) > 0 by decide)]
  cases h : (decide (a ≤ k) && decide (k < b)) <;> simp [h]
theorem in_range {r : Addr} {a b k : Int} {t u v tk : Tok} {Q : Value → Shared → Prop} (hr : IsRange s.heap r a b 1 t u v) (h : Q (.bool (decide (a ≤ k) && decide (k < b))) s) :
    wpAny (model prog w) A (compareOp .In (.int k tk) (.ref r)) Q E s := by
  have hT : s.TypeIs (.ref r) "range" := ⟨_, hr, rfl⟩
  show wpAny _ _ (do return .bool (← contains (.ref r) (.int k tk))) Q E s
  refine wpAny_bind (wpAny_contains_slot hT F.slot_range_contains (wpAny_call_entry F.slot_range_contains hT F.entry_range_contains ?_ (F.args_range_contains_2 _ _)))
  first | (refine and5 s ?_; clear s; intro hp g d tk os) | obtain ⟨hp, g, d, tk, os⟩ := s
  wp_walk using wpAny_loadPart' hr
  refine ⟨_, rfl, ?_⟩
  rw [range_place]
  exact wpAny_pure (wpAny_pure h)
end
noncomputable def InBy (prog : Program) (w : World) (o : Obj) (p : Nat → Bool) : Prop :=
  ∀ (A : Around) (E : Value → Shared → Prop) (s : Shared) (h₀ : Heap) (L : Addr) (news : List (Addr × Obj)) (r : Addr) (k : Nat) (t : Tok) (Q : Value → Shared → Prop), News h₀ L s.heap news → (r, o) ∈ news → Q (.bool (p k)) s → wpAny (model prog w) A (compareOp .In (.int (k : Int) t) (.ref r)) Q E s
theorem inBy_range {prog : Program} {w : World} (a b : Int) (t u v : Tok) : InBy prog w { cls := .type "range", data := .fields #[.int a t, .int b u, .int 1 v] } (fun i => decide (a ≤ (i : Int)) && decide ((i : Int) < b)) :=
  fun _ _ _ _ _ _ _ _ _ _ N hm h => in_range (N _ hm).1 h
theorem inBy_list {prog : Program} {w : World} {vs : List Value} {ns : List Int} {c : Nat} (hi : IntsAre vs ns) : InBy prog w (W.listOf vs.toArray c) (fun i => ns.any (· == (i : Int))) :=
  fun _ _ _ _ _ _ _ _ _ _ N hm h => in_list_ints ⟨_, (N _ hm).1, rfl, _, rfl⟩ hi h
noncomputable def keptOf (p : Nat → Bool) (l : List Nat) : List Nat := (l.zipIdx.filter fun q => p q.2).map (·.1)
theorem kept_nil (p : Nat → Bool) : keptOf p [] = [] := rfl
theorem kept_snoc (p : Nat → Bool) (l : List Nat) (i c : Nat) (h : l[i]? = some c) : keptOf p (l.take (i + 1)) = if p i then keptOf p (l.take i) ++ [c] else keptOf p (l.take i) := by
  have hi : i < l.length := (List.getElem?_eq_some_iff.mp h).1
  have e : l.take (i + 1) = l.take i ++ [c] := by rw [List.take_add_one, h]; rfl
  unfold keptOf
  rw [e, List.zipIdx_append, List.filter_append, List.map_append]
  have hl : (l.take i).length = i := by rw [List.length_take]; omega
  simp only [hl, Nat.zero_add, List.zipIdx_cons, List.zipIdx_nil]
  by_cases hp : p i = true <;> simp [hp]
theorem kept_len (p : Nat → Bool) (l : List Nat) : (keptOf p l).length ≤ l.length := by
  unfold keptOf
  rw [List.length_map]
  exact Nat.le_trans (List.length_filter_le _ _) (by rw [List.length_zipIdx]; exact Nat.le_refl _)
theorem kept_cut (p : Nat → Bool) (a b : Nat) (hp : ∀ i, p i = (decide (a ≤ i) && decide (i < b))) : ∀ l : List Nat, keptOf p l = (l.take b).drop a := by
  intro l
  have key : ∀ k, k ≤ l.length → keptOf p (l.take k) = ((l.take k).take b).drop a := by
    intro k
    induction k with
    | zero => intro _; simp [keptOf]
    | succ k ih =>
      intro hk
      have hc : l[k]? = some l[k] := List.getElem?_eq_getElem hk
      rw [kept_snoc p l k _ hc, ih (by omega), hp]
      rw [List.take_take, List.take_take]
      by_cases h1 : a ≤ k
      · by_cases h2 : k < b
        · simp only [h1, h2, decide_true, Bool.and_true, if_true]
          rw [Nat.min_eq_right (by omega), Nat.min_eq_right (by omega), List.take_add_one, hc]
          rw [List.drop_append_of_le_length (by rw [List.length_take]; omega)]
          rfl
        · simp only [h2, decide_false, Bool.and_false, Bool.false_eq_true, if_false]
          rw [Nat.min_eq_left (by omega), Nat.min_eq_left (by omega)]
      · simp only [h1, decide_false, Bool.false_and, Bool.false_eq_true, if_false]
        rw [List.drop_eq_nil_of_le (by rw [List.length_take]; omega), List.drop_eq_nil_of_le (by rw [List.length_take]; omega)]
  have := key l.length (Nat.le_refl _)
  rwa [List.take_length] at this
end Mine
end
section
namespace Mine
theorem lay_D1 : True := by w_top off; k_with_none; (k_with "ktr_room" => (first | exact rm1 (by assumption) (by decide) | exact rm0 (by assumption) | exact rm2 (by assumption) (by decide) | exact rm3 (by assumption) (by decide) | exact rm4 (by assumption) (by decide))); (k_with "ktr_units" => (first | exact rm1 (by assumption) (by decide) | exact rm0 (by assumption) | exact rm2 (by assumption) (by decide) | exact rm3 (by assumption) (by decide) | exact rm4 (by assumption) (by decide))); (k_with "k_ne" => (first | assumption | (refine neN ?_; (try dsimp only); first | (refine Nat.ne_of_lt ?_; k_extra "kn"; done) | (refine Nat.ne_of_gt ?_; k_extra "kn"; done) | lia | omega))); (k_with "kn" => (repeat (first | with_reducible assumption | exact an0 (by with_reducible assumption) | exact an1 (by with_reducible assumption) | exact an2 (by with_reducible assumption) | exact an3 (by with_reducible assumption) | exact an4 (by with_reducible assumption) | exact an5 (by with_reducible assumption) | exact an6 (by with_reducible assumption) | exact an7 (by with_reducible assumption) | exact an8 (by with_reducible assumption) | exact ae1 (by with_reducible assumption) | exact ae2 (by with_reducible assumption) | exact ae3 (by with_reducible assumption) | exact ae4 (by with_reducible assumption) | exact ae5 (by with_reducible assumption) | exact ae6 (by with_reducible assumption) | exact ae7 (by with_reducible assumption) | exact ae8 (by with_reducible assumption) | exact Nat.lt_succ_self _ | refine lsu ?_))); (k_with "cF" => ((case kF => k_asm); (case kB => k_asm); (case kX => k_asm); (case kT => k_asm); (case kk => exact rfl))); (k_with "cH" => ((case hd => ktr_room); (case hu => ktr_units))); (k_with "cX" => ((case XB => assumption); (case TB => assumption); (case kD => assumption); (case T0 => first | assumption | exact KtsTurn.refl))); (k_with "So" => ((with_reducible show Stop _); refine Stop.of ?_)); (k_with "omega" => ((k_whole; first | ((with_reducible show (_ : Int) ≤ _); first | with_reducible assumption | decide | exact Int.le_trans (by with_reducible assumption) (by decide) | exact Int.le_trans (Int.le_of_lt (by with_reducible assumption)) (by decide) | exact ile (by with_reducible assumption) (by decide) | ((with_reducible show ((_ : Nat) : Int) ≤ _); exact Int.le_trans (Int.ofNat_le.mpr (by with_reducible assumption)) (by decide)) | exact Int.natCast_nonneg _) | ((with_reducible show (_ : Int) < _); first | with_reducible assumption | decide | exact Int.lt_of_le_of_lt (by with_reducible assumption) (by decide) | exact Int.lt_of_lt_of_le (by with_reducible assumption) (by decide) | exact ilt (by with_reducible assumption) (by decide) | ((with_reducible show ((_ : Nat) : Int) < _); exact Int.lt_of_le_of_lt (Int.ofNat_le.mpr (by with_reducible assumption)) (by decide))) | ((with_reducible show (_ : Nat) ≤ _); first | with_reducible assumption | exact Nat.le_of_ble_eq_true rfl | exact Nat.le_trans (by with_reducible assumption) (by decide)) | ((with_reducible show ¬ ((_ : Int) ≥ _)); refine Int.not_le.mpr ?_; omega) | ((with_reducible show _ ∧ _); refine And.intro ?_ ?_ <;> omega) | (law_clear; lia)))); (k_with "subscriptTail Name Constant ref int" => ((k_here; (with_reducible show wpAny _ _ (subscriptTail _ _ (Value.ref _) (Value.int _ _)) _ _ _); (with_unfolding_all refine' item_litK ?_ ?_ ?_ ?_ ?_ ?_; rotate_right 6; (focus ((is_list); done)); (decide); (decide); (rfl); (rotate_left 1; (with_unfolding_all rfl); rotate_right 1); k_whole)))); (k_with "ite" => ((k_closed; k_dflt (first | refine ite_pos (by decide +kernel) ?_ | refine ite_neg (by decide +kernel) ?_)))); (k_with "call builtin:isinstance" => (first | with_reducible refine IsiPair.int_str ?_ | with_reducible refine IsiPair.int_tuple ?_ | with_reducible refine IsiPair.str_str ?_ | with_reducible refine IsiPair.str_tuple ?_)); (k_with "storeName" => ((k_here; k_dflt (refine' storeX_L ?_ ?_ ?_ ?_ ?_; rotate_right 5; (rotate_left 4; (kernel_rfl!); rotate_right 4); (k_asm); (k_asm); (rotate_left 1; (rfl); rotate_right 1); k_whole; intro _ _ _; (try k_sweep))))); (k_with "eval Name" => ((k_here; (fail_if_success (with_reducible show wpAny _ _ (eval (PySem.Expr.Name _ _) (compEnvC _ _ _ _)) _ _ _)); name_kind "cell"; k_dflt (refine' nameX_C ?_ ?_ ?_ ?_ ?_ ?_ ?_ ?_; rotate_right 8; (rotate_left 5; (rfl); rotate_right 5); (rotate_left 5; (kernel_rfl); rotate_right 5); (k_asm); (rfl); (focus ((k_mem); done)); (k_asm); (rotate_left 1; (kernel_rfl); rotate_right 1); k_whole)))); (k_with "eval Name" => ((k_here; (fail_if_success (with_reducible show wpAny _ _ (eval (PySem.Expr.Name _ _) (compEnvC _ _ _ _)) _ _ _)); name_kind "globalImplicit"; k_dflt (first | ((refine' nameX_K ?_ ?_ ?_ ?_ ?_ ?_ ?_ ?_; rotate_right 8; (rotate_left 6; (kernel_rfl); rotate_right 6); (k_asm); (k_asm); (k_asm); (rotate_left 2; (rfl); rotate_right 2); (rotate_left 2; (kernel_rfl); rotate_right 2); (focus ((k_is); done)); k_whole)) | ((refine' nameX_B ?_ ?_ ?_ ?_ ?_ ?_ ?_ ?_ ?_ ?_; rotate_right 10; (rotate_left 8; (kernel_rfl); rotate_right 8); (k_asm); (k_asm); (k_asm); (rotate_left 4; (rfl); rotate_right 4); (rotate_left 4; (kernel_rfl); rotate_right 4); (focus ((k_is); done)); (focus ((boot_fast); done)); (decide +kernel); k_whole)))))); (k_with "eval Name" => ((k_here; (fail_if_success (with_reducible show wpAny _ _ (eval (PySem.Expr.Name _ _) (compEnvC _ _ _ _)) _ _ _)); name_kind "local"; k_dflt (refine' nameX_L ?_ ?_ ?_ ?_ ?_ ?_; rotate_right 6; (rotate_left 4; (kernel_rfl); rotate_right 4); (k_asm); (rotate_left 2; (rfl); rotate_right 2); (rotate_left 2; (kernel_rfl); rotate_right 2); (focus ((((repeat (first | with_reducible exact nm_hit | ((with_reducible refine Eq.trans (nm_miss ?_) ?_; kernel_rfl)))); (try rfl))); done)); k_whole)))); (k_with "exec Raise some none" => ((k_here; k_dflt (refine' raise_leave ?_ ?_ ?_ ?_ ?_ ?_ ?_ ?_ ?_ ?_; rotate_right 10; (k_asm); (k_asm); (k_asm); (k_asm); (k_asm); (exact rfl); (ktr_room); (rotate_left 1; (exact rfl); rotate_right 1); (rotate_left 1; (exact rfl); rotate_right 1)); intro _ _ _ _ _; (try dsimp only)))); (k_with "leaving ref" => ((k_here; k_dflt (refine' leave_next ?_ ?_ ?_ ?_ ?_; rotate_right 5; (rotate_left 2; (assumption); rotate_right 2); (rotate_left 1; (assumption); rotate_right 1); (assumption); (assumption)); intro _ _ _; (try dsimp only)))); (have : (0 : Nat) ≤ 1 := by (first | (walk1; done) | decide)); trivial
theorem fmod_in (a k : Int) (hk : 0 < k) : 0 ≤ a.fmod k ∧ a.fmod k < k := by
  rw [Int.fmod_eq_emod_of_nonneg a (by omega)]
  exact ⟨Int.emod_nonneg _ (by omega), Int.emod_lt_of_pos _ hk⟩
theorem c_draw {w : World} {mean : ExcName → Option Value} {mg mb : Str → Option Value} {news : List (Addr × Obj)} {pd cl : Addr} {o : Obj} {g : Obj → List (Addr × Obj)} {vs : List Value} {ns : List Int} {cc : Nat} {c k : Int} {u : Tok}
   (U : UpdF pd o news g) (hm : (cl, W.listOf vs.toArray cc) ∈ news) (hne : cl ≠ pd) (hI : IntsAre vs ns) (hns : ns.length ≤ 64) (hP : PoolIs w o cl c) (hc0 : 0 ≤ c) (hc1 : c ≤ 1000) (hk0 : 0 < k) (hk1 : k ≤ 100000) :
   Ct w mean mg mb 383 30 news True [.ref pd, .int k u] (fun _ _ h₀ L m s Q _ => ∀ (r : Int) (t : Tok) (o' : Obj) (h' : Heap) (tk' : Nat), 0 ≤ r → r < k → PoolIs w o' cl (c + 1) → Fr h₀ L h' m → News h₀ L h' (g o') → Q (.int r t) { s with heap := h', toks := tk' }) := by
  refine shed ?_ fun _ n h => ?_
  focus (
  intro dp un gd cn cs a ccd cl' outer A₀ base h₀ L m s Q E B F X N0 T hk _ hd hu hret
  obtain ⟨pre, post, rfl, hg, a1, a2⟩ := U.split
  first | (refine and2 hP ?_; clear hP; intro tc hP) | obtain ⟨tc, hP⟩ := hP
  have hrest : ∀ p ∈ (cl, W.listOf vs.toArray cc) :: (pre ++ post), p.1 ≠ pd := fun p hp => by
    rcases List.mem_cons.mp hp with rfl | hp
    · exact hne
    · rcases List.mem_append.mp hp with hp | hp
      · exact a1 p hp
      · exact a2 p hp
  have N : News h₀ L s.heap ((pd, o) :: (cl, W.listOf vs.toArray cc) :: (pre ++ post)) := kst_newsOf N0 (fun p hp => by
    rcases List.mem_cons.mp hp with rfl | hp
    · exact List.mem_append_right _ (.head _)
    rcases List.mem_cons.mp hp with rfl | hp
    · exact hm
    rcases List.mem_append.mp hp with hp | hp
    · exact List.mem_append_left _ hp
    · exact List.mem_append_right _ (.tail _ hp))
  clear N0
  refine wpAny_call ?_
  k_dflt cell_enter
  k_steps
  all_goals
    refine hret _ _ _ _ _ (fmod_in _ _ hk0).1 (fmod_in _ _ hk0).2 ⟨_, (by assumption)⟩ (by k_asm) ?_
    rw [hg]
    refine kst_newsOf (by k_asm) (fun p hp => ?_)
    rcases List.mem_append.mp hp with hp | hp
    · exact .tail _ (.tail _ (List.mem_append_left _ hp))
    rcases List.mem_cons.mp hp with rfl | hp
    · exact .head _
    · exact .tail _ (.tail _ (List.mem_append_right _ hp))
  )
  simpa using pick n 5 h
end Mine
end
section
namespace Mine
theorem OS1.gdS1 : True := trivial
open OS1
theorem wd_S1_1 : True := by (k_with "execs cons" => (k_here; (with_reducible show wpAny _ _ (execs (_ :: _) _) _ _ _); (try k_made); (with_reducible rename Fr _ _ _ _ => kFq); (with_reducible rename News _ _ _ _ => kNq); (refine execsE kFq kNq ?_); intro _ _ _ _ _ _ _ _ _; (try k_sweep))); (k_with "exec Assign" => (k_here; refine Assign_NameF ?_)); (k_with "exec Return some" => (k_here; refine Return_someF ?_)); (k_with "eval BinOp" => (first | (k_here; k_compRoot) | refine BinOpF ?_)); (k_with "eval Subscript" => (first | (k_here; k_compRoot) | refine SubscriptF ?_)); (k_with "eval List" => (first | (k_here; k_compRoot) | refine ListF ?_)); (k_with "eval Tuple" => (first | (k_here; k_compRoot) | refine TupleF ?_)); (k_with "callWith" => (refine callWith_biF ?_)); (k_with "spliced" => (k_here; (refine args_consG ?_); intro _)); (k_with "spliced" => (k_here; (with_reducible refine args_nil ?_); (try dsimp only [List.cons_append, List.nil_append]))); trivial
theorem wd_S1_3 : True := by (k_with "eval ListComp" => ((fail_if_success (fail_if_success (have : True := gdS1))); ((k_here; k_dflt (refine' comp_inv ?_ ?_ ?_ ?_ ?_ ?_ ?_ ?_; rotate_right 8; (k_asm); (with_unfolding_all rfl); (decide); (rfl); (decide); (rfl); (rotate_left 1; (focus (((intro _; rfl)); done)); rotate_right 1)))))); (k_with "call ref" => ((k_here; (with_reducible show wpAny _ _ (call (Value.ref 383) [_, _]) _ _ _); k_dflt (refine' c_draw ?_ ?_ ?_ ?_ ?_ ?_ ?_ ?_ ?_ ?_ _ _ _ _ _ _ _ _ _ _ _ _ _ _ _ _ _ ?_ ?_ ?_ ?_ ?_ ?_ trivial ?_ ?_ ?_; rotate_right 19; (rotate_left 13; (k_asm); rotate_right 13); (rotate_left 11; (k_asm); rotate_right 11); (rotate_left 10; (k_asm); rotate_right 10); (rotate_left 10; (k_asm); rotate_right 10); (rotate_left 10; (k_asm); rotate_right 10); (rotate_left 10; (exact rfl); rotate_right 10); (focus ((k_updF); done)); (rotate_left 4; (assumption); rotate_right 4); (focus ((k_mem); done)); (focus ((first | assumption | k_ne); done)); (assumption); (assumption); (omega); (omega); (omega); (omega); (ktr_room); (ktr_units)); intro rD tD oD hD tkD r0D r1D pD fD nD; (try dsimp only at nD)))); trivial
theorem item_alpha (r : Int) (h0 : 0 ≤ r) (h1 : r < 8) : ∃ x ∈ [97, 98, 90, 32, 49, 91, 34, 9], Txt.item (Str.ofString "abZ 1[\"\t") r = ⟨#[x]⟩ := by
  obtain ⟨n, rfl⟩ := Int.eq_ofNat_of_zero_le h0
  exact (by decide +kernel : ∀ n : Nat, n < 8 → ∃ x ∈ [97, 98, 90, 32, 49, 91, 34, 9], Txt.item (Str.ofString "abZ 1[\"\t") (n : Int) = ⟨#[x]⟩) n (Int.ofNat_lt.mp h1)
noncomputable def SInv (w : World) (pd cl : Addr) (c₀ : Int) (a b : Addr × Obj) (rest : List (Addr × Obj)) (i : Nat) (ys : List Value) (nw : List (Addr × Obj)) : Prop :=
  ∃ l o2 c2, StrsAre ys (ones l) ∧ l.length = i ∧ (∀ x ∈ l, x ∈ [97, 98, 90, 32, 49, 91, 34, 9]) ∧ nw = a :: (pd, o2) :: b :: rest ∧ PoolIs w o2 cl c2 ∧ c₀ ≤ c2 ∧ c2 ≤ c₀ + (i : Int)
theorem SInv.use {w : World} {pd cl : Addr} {c₀ : Int} {a b : Addr × Obj} {rest : List (Addr × Obj)} {i : Nat} {ys : List Value} {nw : List (Addr × Obj)} {G : List (Addr × Obj) → Prop} (j : SInv w pd cl c₀ a b rest i ys nw)
    (k : ∀ l o2 c2, StrsAre ys (ones l) → l.length = i → (∀ x ∈ l, x ∈ [97, 98, 90, 32, 49, 91, 34, 9]) → PoolIs w o2 cl c2 → c₀ ≤ c2 → c2 ≤ c₀ + (i : Int) → G (a :: (pd, o2) :: b :: rest)) : G nw := by
  obtain ⟨l, o2, c2, h1, h2, h3, rfl, h4, h5, h6⟩ := j; exact k l o2 c2 h1 h2 h3 h4 h5 h6
theorem c_signs {w : World} {mean : ExcName → Option Value} {mg mb : Str → Option Value} {rest : List (Addr × Obj)} {pd cl : Addr} {o : Obj} {vs : List Value} {ns : List Int} {cc : Nat} {c k : Int} {u : Tok}
   (hrest : ∀ p ∈ rest, p.1 ≠ pd) (hne : cl ≠ pd) (hI : IntsAre vs ns) (hns : ns.length ≤ 64) (hP : PoolIs w o cl c) (hc0 : 0 ≤ c) (hc1 : c ≤ 500) (hk0 : 0 ≤ k) (hk1 : k ≤ 100) :
   Ct w mean mg mb 388 32 ((pd, o) :: (cl, W.listOf vs.toArray cc) :: rest) True [.ref pd, .int k u] (fun _ _ h₀ L m s Q _ => ∀ (l : List Nat) (t : Tok) (o' : Obj) (c' : Int) (h' : Heap) (tk' : Nat), c ≤ c' → c' ≤ c + k + 1 → l.length ≤ k.toNat → (∀ x ∈ l, x ∈ [97, 98, 90, 32, 49, 91, 34, 9]) → PoolIs w o' cl c' → Fr h₀ L h' m → News h₀ L h' ((pd, o') :: (cl, W.listOf vs.toArray cc) :: rest) → Q (.str ⟨l.toArray⟩ t) { s with heap := h', toks := tk' }) := by
  refine shed ?_ fun _ n h => ?_
  focus (
  intro dp un gd cn cs a ccd cl' outer A₀ base h₀ L m s Q E B F X N T hk _ hd hu hret
  refine wpAny_call ?_
  k_dflt (refine' code_defC ?k1 ?k2 ?k3 ?k4 ?k5 ?kA ?kF ?kK ?k6 ?k7 ?k8 ?k9 ?kB ?kD ?_ ?c2 ?c3 ?c4; (case kA => exact rfl); (case kF => exact rfl); (case kK => assumption); (case k1 => k_asm); (case k2 => k_asm); (case k3 => k_asm); (case k4 => k_asm); (case k5 => k_asm); (case k6 => k_is); (case k7 => k_is); (case k8 => ktr_room); (case k9 => exact BindsTo.of_eq rfl); (case kB => exact rfl); (case kD => decide +kernel); (case c2 => exact rfl); (case c3 => exact rfl); (case c4 => exact rfl); k_whole)
  intro g' L' h' tk' cells' FG' F' N' Y' B' X' T' l1
  (try k_lt l1)
  obtain ⟨oc, hE, d1⟩ := CellsAre.one Y'
  subst hE
  (try simp only [List.cons_append, List.nil_append] at N')
  (try dsimp only)
  (try k_lift B')
  (try k_fold)
  k_steps
  rename Int => rD
  rename _ < k + 1 => hr1
  rename 0 ≤ rD => hr0
  have hrt := Int.toNat_of_nonneg hr0
  rename PoolIs w _ cl (c + 1) => hP1
  (rename IsRange _ _ _ _ _ _ _ _ => hR)
  (rename Fr _ L' _ _ => hF)
  (rename News _ L' _ _ => hN)
  k_dflt (refine' CSrc.range (n := rD.toNat) (SInv w pd cl (c + 1) (L' + 1, oc) (cl, W.listOf vs.toArray cc) rest) rfl hF hN hR ?a1 ?a2 ?a3 ?a4 ?a5 ?a6 ?a7)
  case a1 => exact small_one (by omega) (by omega) (by omega) (by omega)
  case a2 => rw [rangeSize_nat]; congr 2; omega
  case a3 => rw [sizeLine_eq]; omega
  case a4 =>
    intro i ys nw hJ; apply SInv.use hJ; intro l o2 c2 hs hl _ _ _ _
    rw [strs_len hs, ones, List.length_map]
    omega
  case a5 => exact ⟨[], _, c + 1, .nil, rfl, (fun x hx => nomatch hx), rfl, hP1, by omega, by omega⟩
  case a6 =>
    intro g i ys nw v I oI C oC D m₂ hh tk E' hi hJ; apply SInv.use hJ; clear hJ; intro l o2 c2 hs hl hal hP2 hc2 hc3 _ hv; apply ex1E hv; clear hv; intro tv hoC hmx F2 N2 hoff hdis
    simp only [LCg.Off3] at hoff
    have q1 := Ne.symm hoff.1.1
    have q2 := Ne.symm hoff.1.2.1
    have q3 := Ne.symm hoff.1.2.2
    have q4 := Ne.symm hoff.2.1.1
    have q5 := Ne.symm hoff.2.1.2.1
    have q6 := Ne.symm hoff.2.1.2.2
    refine wpAny_tests_nil ?_
    simp only [if_true]
    k_steps
    (rename Fr _ L' _ _ => fE)
    (rename News _ L' _ _ => nE)
    (rename PoolIs w _ cl (c2 + 1) => pE)
    (rename Int => rE)
    (rename 0 ≤ rE => e0)
    (rename rE < 8 => e1)
    obtain ⟨x, hx, hxe⟩ := item_alpha rE e0 e1
    refine LCg.CompEnd.intro fE nE ((L' + 1, oc) :: (pd, _) :: (cl, W.listOf vs.toArray cc) :: rest) (fun p hp => hp) hoff trivial ⟨l ++ [x], _, _, ?_, ?_, ?_, rfl, pE, by omega, by omega⟩
    · rw [hxe]; exact strs_ones_snoc hs
    · rw [List.length_append, hl]; rfl
    · intro y hy
      rcases List.mem_append.mp hy with hy | hy
      · exact hal y hy
      · rw [List.mem_singleton.mp hy]; exact hx
  case a7 =>
    intro g ys nw hJ; apply SInv.use hJ; clear hJ; intro l o2 c2 hs hl hal hP2 hc2 hc3 D hh tk F2 N2 _
    k_steps
    refine join_ones_l (isList_of N2 (.head _)) hs (by omega) fun tj kj => ?_
    k_steps
    (rename Fr h₀ L _ _ => fE)
    (rename News h₀ L _ _ => nE)
    exact hret l _ o2 c2 _ _ (by omega) (by omega) (by omega) hal hP2 fE (kst_newsOf nE (fun p hp => tl2 hp))
  )
  simpa using pick n 5 h
end Mine
end
section
open PySem.Spec
namespace Mine
theorem OK3.gdK3 : True := trivial
open OK3
theorem wd_K3_2 : True := by (k_with "spliced" => (k_here; (refine args_consG ?_); intro _)); trivial
theorem wd_K3_4 : True := by (k_with "eval ListComp" => ((fail_if_success (fail_if_success (have : True := gdK3))); ((k_here; k_dflt (refine' enum_comp ?_ ?_ ?_ ?_ ?_ ?_ ?_ ?_ ?_ ?_; rotate_right 10; (k_asm); (with_unfolding_all rfl); (decide); (rfl); (decide); (rfl); (rfl); (decide); (rotate_left 1; (focus (((intro _; rfl)); done)); rotate_right 1)))))); (k_with "compareOp In int ref" => ((fail_if_success (fail_if_success (have : True := gdK3))); ((k_here; (with_reducible rename InBy _ _ _ _ => hInBy); k_dflt (refine' hInBy _ _ _ _ _ _ _ _ _ _ ?_ ?_ ?_; rotate_right 3; (k_asm); (focus ((repeat (first | assumption | refine List.mem_cons_of_mem _ ?_)); done))))))); (k_with "call type:enumerate" => ((fail_if_success (fail_if_success (have : True := gdK3))); ((k_here; k_dflt (refine Stop.go ?_))))); trivial
theorem c_kept {w : World} {mean : ExcName → Option Value} {mg mb : Str → Option Value} {news : List (Addr × Obj)} {r : Addr} {o : Obj} {x : Str} {u : Tok} {p : Nat → Bool}
   (hm : (r, o) ∈ news) (hin : InBy Challenge.pw_pf0012_01 w o p) (hx : x.length ≤ 1000) :
   Ct w mean mg mb 400 10 news True [.str x u, .ref r] (RetV news (fun t => .str (St (keptOf p (cd x))) t)) := by
  refine shed ?_ fun _ n h => ?_
  focus (
  intro dp un gd cn cs a ccd cl' outer A₀ base h₀ L m s Q E B F X N T hk _ hd hu hret
  refine wpAny_call ?_
  k_dflt (refine' code_defC ?k1 ?k2 ?k3 ?k4 ?k5 ?kA ?kF ?kK ?k6 ?k7 ?k8 ?k9 ?kB ?kD ?_ ?c2 ?c3 ?c4; (case kA => exact rfl); (case kF => exact rfl); (case kK => assumption); (case k1 => k_asm); (case k2 => k_asm); (case k3 => k_asm); (case k4 => k_asm); (case k5 => k_asm); (case k6 => k_is); (case k7 => k_is); (case k8 => ktr_room); (case k9 => exact BindsTo.of_eq rfl); (case kB => exact rfl); (case kD => decide +kernel); (case c2 => exact rfl); (case c3 => exact rfl); (case c4 => exact rfl); k_whole)
  intro g' L' h' tk' cells' FG' F' N' Y' B' X' T' l1
  (try k_lt l1)
  obtain ⟨oc, hE, d1⟩ := CellsAre.one Y'
  subst hE
  (try simp only [List.cons_append, List.nil_append] at N')
  (try dsimp only)
  (try k_lift B')
  (try k_fold)
  k_steps
  k_extra "So"
  (rename Fr _ L' _ _ => hF)
  (rename News _ L' _ _ => hN)
  k_dflt (refine' ESrc.of (fun i ys => StrsAre ys (ones (keptOf p ((cd x).take i)))) rfl hF hN ?a1 ?a2 ?a3 ?a4 ?a5)
  case a1 => rw [sizeLine_eq]; have : x.cps.size = x.length := rfl; omega
  case a2 =>
    intro i ys hs
    rw [strs_len hs, ones, List.length_map]
    exact Nat.le_trans (kept_len _ _) (by rw [List.length_take]; omega)
  case a3 => exact .nil
  case a4 =>
    rintro g I J i ys t v oI oJ C oC D m₂ hh tk E' hi hs hv hoC hma hmb F2 N2 hoff hdis
    obtain ⟨cc, tv, hcx, rfl⟩ := hv
    have hcx' : (cd x)[i]? = some cc := by simpa [cd] using hcx
    simp only [LCg.Off3] at hoff
    have hsn := kept_snoc p (cd x) i cc hcx'
    cases hp : p i
    all_goals rw [hp] at hsn
    all_goals simp only [if_true, Bool.false_eq_true, if_false] at hsn
    all_goals k_steps
    all_goals
      (rename Fr _ L' _ _ => fE)
      (rename News _ L' _ _ => nE)
    · exact LCg.CompEnd.intro fE nE ((J, oJ) :: (L' + 1, oc) :: news) (fun p hp => hp) hoff rfl (by dsimp only; rw [hsn]; exact hs)
    · exact LCg.CompEnd.intro fE nE ((J, oJ) :: (L' + 1, oc) :: news) (fun p hp => hp) hoff rfl (by dsimp only; rw [hsn]; exact strs_ones_snoc hs)
  case a5 =>
    rintro g ys hi D hh tk F2 N2 _
    have hi' : StrsAre ys (ones (keptOf p (cd x))) := by
      have e : (cd x).take x.cps.size = cd x := List.take_of_length_le (by simp [cd])
      rw [e] at hi
      exact hi
    have hlen := kept_len p (cd x)
    rw [cd_len] at hlen
    k_steps
    refine join_ones_l (isList_of N2 (.head _)) hi' (by omega) fun tj kj => ?_
    k_steps
    (rename Fr h₀ L _ _ => fE)
    (rename News h₀ L _ _ => nE)
    exact hret _ _ _ fE (kst_newsOf nE (fun p hp => tl2 hp))
  )
  simpa using pick n 5 h
end Mine
end
section
open PySem.Spec
namespace Mine
noncomputable abbrev Cl (w : World) (mean : ExcName → Option Value) (mg mb : Str → Option Value) (f : Addr) (D : Nat) (news : List (Addr × Obj)) (vs : List Value) : Prop :=
  ∀ (dp un : Nat) (gd : Option (List Code)) (cn : Str) (cs : Scope) (a : Addr) (ccd : Value) (cl : List (Str × Addr)) (A₀ : Around) (base h₀ : Heap) (L : Addr) (m : Str → Option Value) (s : Shared) (Q E : Value → Shared → Prop),
    Below A₀ base [] h₀ → Fr h₀ L s.heap m → Frag.In (hd.heap_39 w.params) h₀ → News h₀ L s.heap news → Top hd.view_39 (looseW hd.view_39 [Str.ofString "BasicError"]) mean mg mb h₀ → cs.kind = .function →
    Frag.In (hd.heap_39 w.params) base → Top hd.view_39 (looseW hd.view_39 [Str.ofString "BasicError"]) mean mg mb base → dp + D < recursionLimit → un + 10 * D < cLine →
    (∀ (h' : Heap) (tk' : Nat), Fr h₀ L h' m → Q (.bool true) { s with heap := h', toks := tk' }) →
      wpAny (model Challenge.pw_pf0012_01 w) (ktrTop dp un gd cn cs L a ccd cl []) (call (.ref f) vs) Q E s
noncomputable abbrev Alpha (x : Str) : Prop := ∀ c ∈ cd x, c ∈ [97, 98, 90, 32, 49, 91, 34, 9]
theorem c_signsX {w : World} {mean : ExcName → Option Value} {mg mb : Str → Option Value} {news : List (Addr × Obj)} {pd cl : Addr} {o : Obj} {g : Obj → List (Addr × Obj)} {vs : List Value} {ns : List Int} {cc : Nat} {c k : Int} {u : Tok}
   (U : UpdF pd o news g) (hm : (cl, W.listOf vs.toArray cc) ∈ news) (hne : cl ≠ pd) (hI : IntsAre vs ns) (hns : ns.length ≤ 64) (hP : PoolIs w o cl c) (hc0 : 0 ≤ c) (hc1 : c ≤ 500) (hk0 : 0 ≤ k) (hk1 : k ≤ 100) :
   Ct w mean mg mb 388 32 news True [.ref pd, .int k u] (fun _ _ h₀ L m s Q _ => ∀ (x : Str) (t : Tok) (o' : Obj) (c' : Int) (h' : Heap) (tk' : Nat), c ≤ c' → c' ≤ c + k + 1 → x.length ≤ k.toNat → Alpha x → PoolIs w o' cl c' → Fr h₀ L h' m → News h₀ L h' (g o') → Q (.str x t) { s with heap := h', toks := tk' }) := by
  intro dp un gd cn cs a ccd cl' outer A₀ base h₀ L m s Q E B F X N0 T hk ht hd hu hret
  obtain ⟨pre, post, rfl, hg, a1, a2⟩ := U.split
  have hrest : ∀ p ∈ pre ++ post, p.1 ≠ pd := fun p hp => by
    rcases List.mem_append.mp hp with hp | hp
    · exact a1 p hp
    · exact a2 p hp
  have N : News h₀ L s.heap ((pd, o) :: (cl, W.listOf vs.toArray cc) :: (pre ++ post)) := kst_newsOf N0 (fun p hp => by
    rcases List.mem_cons.mp hp with rfl | hp
    · exact List.mem_append_right _ (.head _)
    rcases List.mem_cons.mp hp with rfl | hp
    · exact hm
    rcases List.mem_append.mp hp with hp | hp
    · exact List.mem_append_left _ hp
    · exact List.mem_append_right _ (.tail _ hp))
  refine c_signs hrest hne hI hns hP hc0 hc1 hk0 hk1 dp un gd cn cs a ccd cl' outer A₀ base h₀ L m s Q E B F X N T hk trivial hd hu ?_
  intro l t o' c' h' tk' i1 i2 i3 i4 i5 i6 i7
  refine hret ⟨l.toArray⟩ t o' c' h' tk' i1 i2 (by simpa [Str.length] using i3) (by simpa [Alpha, cd] using i4) i5 i6 ?_
  rw [hg]
  refine kst_newsOf i7 (fun p hp => ?_)
  rcases List.mem_append.mp hp with hp | hp
  · exact .tail _ (.tail _ (List.mem_append_left _ hp))
  rcases List.mem_cons.mp hp with rfl | hp
  · exact .head _
  · exact .tail _ (.tail _ (List.mem_append_right _ hp))
end Mine
end
section
open PySem.Spec
namespace Mine
section
variable {prog : Program} {w : World} {A : Around} {E : Value → Shared → Prop} {s : Shared} {h₀ : Heap} {L : Addr} {m : Str → Option Value} {news : List (Addr × Obj)}
noncomputable abbrev rangeObj (a b : Int) (t u v : Tok) : Obj := { cls := .type "range", data := .fields #[.int a t, .int b u, .int 1 v] }
theorem push_news {o : Obj} (F : Fr h₀ L s.heap m) (N : News h₀ L s.heap news) (ho : o.isFreed = false) : Fr h₀ L (s.heap.push o) m ∧ News h₀ L (s.heap.push o) ((s.heap.objs.size, o) :: news) :=
  ⟨F.keeps fun _ _ e => Heap.get?_push_of_some _ e, fun p hp => by
    rcases List.mem_cons.mp hp with rfl | hp
    · exact ⟨Heap.get?_push_size _ ho, Ne.symm (Nat.ne_of_lt F.ns.lt), next_is_new F⟩
    · exact N.grown (fun _ _ e => Heap.get?_push_of_some _ e) p hp⟩
theorem range1N {b : Int} {t : Tok} {Q : Value → Shared → Prop} (F : Fr h₀ L s.heap m) (N : News h₀ L s.heap news)
    (h : ∀ r h' x u v tk, Fr h₀ L h' m → News h₀ L h' ((r, rangeObj 0 b x u v) :: news) → Q (.ref r) { s with heap := h', toks := tk }) : wpAny (model prog w) A (call (.type "range") [.int b t]) Q E s := by
  refine call_range_1 ?_
  obtain ⟨F', N'⟩ := push_news (o := rangeObj 0 b s.toks t (s.toks + 1)) F N rfl
  exact h _ _ _ _ _ _ F' N'
theorem range2N {a b : Int} {t u' : Tok} {Q : Value → Shared → Prop} (F : Fr h₀ L s.heap m) (N : News h₀ L s.heap news)
    (h : ∀ r h' x u v tk, Fr h₀ L h' m → News h₀ L h' ((r, rangeObj a b x u v) :: news) → Q (.ref r) { s with heap := h', toks := tk }) : wpAny (model prog w) A (call (.type "range") [.int a t, .int b u']) Q E s := by
  refine call_range_2 ?_
  obtain ⟨F', N'⟩ := push_news (o := rangeObj a b t u' s.toks) F N rfl
  exact h _ _ _ _ _ _ F' N'
end
end Mine
end
section
open PySem.Spec
namespace Mine
section
variable {prog : Program} {w : World} {A : Around} {E : Value → Shared → Prop} {s : Shared} {Q : Value → Shared → Prop}
theorem eqS_yes {x y : Str} {t u : Tok} (e : x = y) (h : Q (.bool true) s) : wpAny (model prog w) A (compareOp .Eq (.str x t) (.str y u)) Q E s := by
  subst e
  exact PyProof.Rows.eq_str (by rw [beq_self_eq_true]; exact h)
theorem neS_no {x y : Str} {t u : Tok} (e : x = y) (h : Q (.bool false) s) : wpAny (model prog w) A (compareOp .NotEq (.str x t) (.str y u)) Q E s := by
  subst e
  exact PyProof.Rows.ne_str (by rw [bne_self_eq_false]; exact h)
theorem eqI_yes {x y : Int} {t u : Tok} (e : x = y) (h : Q (.bool true) s) : wpAny (model prog w) A (compareOp .Eq (.int x t) (.int y u)) Q E s := by
  subst e
  exact PyProof.Rows.eq_int (by rw [beq_self_eq_true]; exact h)
theorem neI_no {x y : Int} {t u : Tok} (e : x = y) (h : Q (.bool false) s) : wpAny (model prog w) A (compareOp .NotEq (.int x t) (.int y u)) Q E s := by
  subst e
  exact PyProof.Rows.ne_int (by rw [bne_self_eq_false]; exact h)
theorem ne_strs2 {h₀ : Heap} {L : Addr} {news : List (Addr × Obj)} {a b : Addr} {k j : Nat} {x y x' y' : Str} {t u t' u' : Tok} (N : News h₀ L s.heap news) (ha : (a, W.listOf #[.str x t, .str y u] k) ∈ news) (hb : (b, W.listOf #[.str x' t', .str y' u'] j) ∈ news)
    (ox : PyData.strOk x = true) (oy : PyData.strOk y = true) (ex : x = x') (ey : y = y') (hu : A.units + 64 < cLine) (h : Q (.bool false) s) : wpAny (model prog w) A (compareOp .NotEq (.ref a) (.ref b)) Q E s := by
  subst ex ey
  have la : s.heap.IsList a [Value.str x t, Value.str y u].toArray := ⟨_, (N _ ha).1, rfl, _, rfl⟩
  have lb : s.heap.IsList b [Value.str x t', Value.str y u'].toArray := ⟨_, (N _ hb).1, rfl, _, rfl⟩
  refine ne_dataH_same (reads_newData la (.cons (.str _ _) (.cons (.str _ _) .nil))) (reads_newData lb (.cons (.str _ _) (.cons (.str _ _) .nil))) ?_ ?_ hu ?_ ?_
  · simp [SeqAt.shaped, PyData.canLay0, PyData.canLayAll0, PyData.depth, PyData.depthAll, ox, oy]
  · simp [SeqAt.shaped, PyData.canLay0, PyData.canLayAll0, PyData.depth, PyData.depthAll, ox, oy]
  · simp [SeqAt.noMix, SeqAt.noMixAll]
  · have e : PySem.Spec.same (.list [PyData.str x, PyData.str y]) (.list [PyData.str x, PyData.str y]) = true := by simp [PySem.Spec.same, PySem.Spec.sameAll]
    rw [e]
    exact h
end
theorem ok_sub {x : Str} (h : Alpha x) {l : List Nat} (hl : ∀ c ∈ l, c ∈ cd x) : PyData.strOk (St l) = true := by
  simp only [PyData.strOk, List.all_toArray, List.all_eq_true, decide_eq_true_eq]
  intro c hc
  have := h c (hl c hc)
  simp at this
  lia
theorem ok_take {x : Str} (h : Alpha x) (k : Nat) : PyData.strOk (St ((cd x).take k)) = true := ok_sub h fun _ hc => List.mem_of_mem_take hc
theorem ok_drop {x : Str} (h : Alpha x) (k : Nat) : PyData.strOk (St ((cd x).drop k)) = true := ok_sub h fun _ hc => List.mem_of_mem_drop hc
theorem ok_both {x : Str} (h : Alpha x) (k j : Nat) : PyData.strOk (St (((cd x).take k).drop j)) = true := ok_sub h fun _ hc => List.mem_of_mem_take (List.mem_of_mem_drop hc)
theorem kept_range (a b : Int) (l : List Nat) : keptOf (fun i => decide (a ≤ (i : Int)) && decide ((i : Int) < b)) l = (l.take b.toNat).drop a.toNat :=
  kept_cut _ _ _ (fun i => by
    have h1 : (a ≤ (i : Int)) ↔ (a.toNat ≤ i) := by omega
    have h2 : ((i : Int) < b) ↔ (i < b.toNat) := by omega
    rw [decide_eq_decide.mpr h1, decide_eq_decide.mpr h2]) l
theorem law_left (x : Str) (n : Int) : St ((cd x).take n.toNat) = St (keptOf (fun i => decide ((0 : Int) ≤ (i : Int)) && decide ((i : Int) < n)) (cd x)) := by
  rw [kept_range]; rfl
theorem law_right (x : Str) (n : Int) (hn : 0 ≤ n) : St ((cd x).drop (x.length - n.toNat)) = St (keptOf (fun i => decide ((if 0 > (x.length : Int) - n then 0 else (x.length : Int) - n) ≤ (i : Int)) && decide ((i : Int) < (x.length : Int))) (cd x)) := by
  rw [kept_range, List.take_of_length_le (by rw [cd_len]; omega)]
  congr 2
  exact (right_idx hn).symm
theorem law_mid (x : Str) (n : Int) : St ((cd x).drop (n - 1).toNat) = St (keptOf (fun i => decide (n - 1 ≤ (i : Int)) && decide ((i : Int) < (x.length : Int))) (cd x)) := by
  rw [kept_range, List.take_of_length_le (by rw [cd_len]; omega)]
theorem law_third (x : Str) (n k : Int) : St (((cd x).take (n - 1 + k).toNat).drop (n - 1).toNat) = St (keptOf (fun i => decide (n - 1 ≤ (i : Int)) && decide ((i : Int) < n - 1 + k)) (cd x)) := by
  rw [kept_range]
theorem law_whole (x : Str) (n : Int) (hn : 1 ≤ n) : St (((cd x).take (n - 1 + (x.length : Int)).toNat).drop (n - 1).toNat) = St (keptOf (fun i => decide (n - 1 ≤ (i : Int)) && decide ((i : Int) < (x.length : Int))) (cd x)) := by
  rw [kept_range, List.take_of_length_le (by rw [cd_len]; omega), List.take_of_length_le (by rw [cd_len]; omega)]
theorem law_seg (x : Str) (n k : Int) (ns : List Int) (hns : ∀ i : Nat, i < x.length → ns.any (· == (i : Int)) = (decide (n ≤ (i : Int) + 1) && decide ((i : Int) + 1 ≤ k))) :
    St (((cd x).take k.toNat).drop (n - 1).toNat) = St (keptOf (fun i => ns.any (· == (i : Int))) (cd x)) := by
  have e : keptOf (fun i => ns.any (· == (i : Int))) (cd x) = keptOf (fun i => decide (n - 1 ≤ (i : Int)) && decide ((i : Int) < k)) (cd x) := by
    unfold keptOf
    congr 1
    apply List.filter_congr
    rintro ⟨c, i⟩ hq
    have hi : i < (cd x).length := by have := List.mem_zipIdx hq; omega
    rw [cd_len] at hi
    dsimp only
    rw [hns i hi, decide_eq_decide.mpr (show n ≤ (i : Int) + 1 ↔ n - 1 ≤ (i : Int) by lia), decide_eq_decide.mpr (show (i : Int) + 1 ≤ k ↔ (i : Int) < k by omega)]
  rw [e, kept_range]
end Mine
end
section
open PySem.Spec
namespace Mine
noncomputable def JoinS (h₀ : Heap) (L : Addr) (m : Str → Option Value) (news : List (Addr × Obj)) (x : Str) (s : Shared) (v : Value) (s' : Shared) : Prop :=
  ∃ t h' tk, v = .str x t ∧ s' = { s with heap := h', toks := tk } ∧ Fr h₀ L h' m ∧ News h₀ L h' news
theorem JoinS.end {h₀ h' : Heap} {L : Addr} {m : Str → Option Value} {news all : List (Addr × Obj)} {x y : Str} {s : Shared} {t : Tok} {tk : Nat} (F : Fr h₀ L h' m) (N : News h₀ L h' all) (e : y = x) (sub : ∀ p ∈ news, p ∈ all) : JoinS h₀ L m news x s (.str y t) { s with heap := h', toks := tk } := by
  subst e
  exact ⟨t, h', tk, rfl, rfl, F, kst_newsOf N sub⟩
theorem join_str {prog : Program} {w : World} {A : Around} {E : Value → Shared → Prop} {s : Shared} {Q : Value → Shared → Prop} {T : Sem Value} {h₀ : Heap} {L : Addr} {m : Str → Option Value} {news : List (Addr × Obj)} (x : Str) (_F : Fr h₀ L s.heap m) (_N : News h₀ L s.heap news)
    (h : wpAny (model prog w) A T (JoinS h₀ L m news x s) E s) (k : ∀ t h' tk, Fr h₀ L h' m → News h₀ L h' news → Q (.str x t) { s with heap := h', toks := tk }) : wpAny (model prog w) A T Q E s :=
  wpAny_mono h (fun v s' h' => by obtain ⟨t, h', tk, rfl, rfl, F', N'⟩ := h'; exact k t h' tk F' N') fun _ _ e => e
section
variable {w : World} {mean : ExcName → Option Value} {mg mb : Str → Option Value} {news : List (Addr × Obj)} {la : Addr} {cc : Nat} {x : Str} {n k : Int} {t u v vv : Tok} {pa : Addr}
theorem hj_left (hm : (la, W.listOf #[.str x t, .int n u] cc) ∈ news) (hl : x.length ≤ 100) (hb : -1000 ≤ n ∧ n ≤ 1000) : Cs w mean mg mb 395 60 news True [.ref 255, .ref la] (fun t => .str (if 0 ≤ n ∧ n ≤ 255 then St ((cd x).take n.toNat) else Str.ofString "error FC") t) := by
  by_cases h : 0 ≤ n ∧ n ≤ 255
  · simp only [if_pos h]; exact h_left_v hm hl h
  · simp only [if_neg h]; exact h_left_x hm hl h hb
theorem hj_right (hm : (la, W.listOf #[.str x t, .int n u] cc) ∈ news) (hl : x.length ≤ 100) (hb : -1000 ≤ n ∧ n ≤ 1000) : Cs w mean mg mb 395 60 news True [.ref 262, .ref la] (fun t => .str (if 0 ≤ n ∧ n ≤ 255 then St ((cd x).drop (x.length - n.toNat)) else Str.ofString "error FC") t) := by
  by_cases h : 0 ≤ n ∧ n ≤ 255
  · simp only [if_pos h]; exact h_right_v hm hl h
  · simp only [if_neg h]; exact h_right_x hm hl h hb
theorem hj_mid2 (hm : (la, W.listOf #[.str x t, .int n u] cc) ∈ news) (hl : x.length ≤ 100) (hb : -1000 ≤ n ∧ n ≤ 1000) : Cs w mean mg mb 395 60 news True [.ref 269, .ref la] (fun t => .str (if 1 ≤ n ∧ n ≤ 255 then St ((cd x).drop (n - 1).toNat) else Str.ofString "error FC") t) := by
  by_cases h : 1 ≤ n ∧ n ≤ 255
  · simp only [if_pos h]; exact h_mid2_v hm hl h
  · simp only [if_neg h]; exact h_mid2_x hm hl h hb
theorem hj_mid3 (hm : (la, W.listOf #[.str x t, .ref pa, .int k v] cc) ∈ news) (hp : (pa, ({ cls := .type "tuple", data := .seq #[.int n u, .int 0 vv] } : Obj)) ∈ news) (hl : x.length ≤ 100) (hb : (-1000 ≤ n ∧ n ≤ 1000) ∧ -1000 ≤ k ∧ k ≤ 1000) :
    Cs w mean mg mb 395 60 news True [.ref 269, .ref la] (fun t => .str (if (1 ≤ n ∧ n ≤ 255) ∧ 0 ≤ k ∧ k ≤ 255 then St (((cd x).take (n - 1 + k).toNat).drop (n - 1).toNat) else Str.ofString "error FC") t) := by
  by_cases h : (1 ≤ n ∧ n ≤ 255) ∧ 0 ≤ k ∧ k ≤ 255
  · simp only [if_pos h]; exact h_mid3_v hm hp hl h
  · simp only [if_neg h]; exact h_mid3_x hm hp hl h hb
end
theorem c_mid3v {w : World} {mean : ExcName → Option Value} {mg mb : Str → Option Value} {news : List (Addr × Obj)} {la : Addr} {cc : Nat} {x : Str} {n k : Int} {t u v : Tok} {wv : Value} (hm : (la, W.listOf #[.str x t, .int n u, .int k v] cc) ∈ news) (hl : x.length ≤ 100) (hn : 1 ≤ n ∧ n ≤ 255) (hk : 0 ≤ k ∧ k ≤ 255) :
    Ct w mean mg mb 269 30 news True [wv, .ref la] (RetV news (fun t => .str (St (((cd x).take (n - 1 + k).toNat).drop (n - 1).toNat)) t)) := by
  have q := Ct.up (c_mid3 (w := w) (mean := mean) (mg := mg) (mb := mb) (news := news) (wv := wv) (la := la) (cc := cc) (x := x) (n := n) (k := k) (t := t) (u := u) (v := v)) (by decide : 30 ≤ 30) ⟨hm, hl, by omega, by omega, by omega, by omega⟩
  rw [if_pos ⟨hn, hk⟩] at q
  exact q
section
variable {x : Str} {n k : Int}
noncomputable abbrev FC : Str := Str.ofString "error FC"
noncomputable abbrev keptR (a b : Int) (x : Str) : Str := St (keptOf (fun i => decide (a ≤ (i : Int)) && decide ((i : Int) < b)) (cd x))
theorem lawj_left (hb : n ≤ 255) : (if 0 ≤ n ∧ n ≤ 255 then St ((cd x).take n.toNat) else FC) = (if n < 0 then FC else keptR 0 n x) := by
  split
  · rw [if_neg (by omega)]; exact law_left x n
  · rw [if_pos (by omega)]
theorem lawj_right (hb : n ≤ 255) : (if 0 ≤ n ∧ n ≤ 255 then St ((cd x).drop (x.length - n.toNat)) else FC) = (if n < 0 then FC else keptR (if 0 > (x.length : Int) - n then 0 else (x.length : Int) - n) (x.length : Int) x) := by
  split
  · rw [if_neg (by omega)]; exact law_right x n (by omega)
  · rw [if_pos (by omega)]
theorem lawj_mid (hb : n ≤ 255) : (if 1 ≤ n ∧ n ≤ 255 then St ((cd x).drop (n - 1).toNat) else FC) = (if n < 1 then FC else keptR (n - 1) (x.length : Int) x) := by
  split
  · rw [if_neg (by omega)]; exact law_mid x n
  · rw [if_pos (by omega)]
theorem lawj_third (hb : n ≤ 255) (hk : k ≤ 255) : (if (1 ≤ n ∧ n ≤ 255) ∧ 0 ≤ k ∧ k ≤ 255 then St (((cd x).take (n - 1 + k).toNat).drop (n - 1).toNat) else FC) = (if n < 1 ∨ k < 0 then FC else keptR (n - 1) (n - 1 + k) x) := by
  split
  · rw [if_neg (by omega)]; exact law_third x n k
  · rw [if_pos (by omega)]
theorem ok_kept (h : Alpha x) (p : Nat → Bool) : PyData.strOk (St (keptOf p (cd x))) = true := ok_sub h fun c hc => by
  unfold keptOf at hc
  obtain ⟨q, hq, rfl⟩ := List.mem_map.mp hc
  exact List.fst_mem_of_mem_zipIdx (List.mem_filter.mp hq).1
theorem ok_FC : PyData.strOk FC = true := by decide +kernel
theorem ok_if {p : Prop} [Decidable p] {a b : Str} (ha : PyData.strOk a = true) (hb : PyData.strOk b = true) : PyData.strOk (if p then a else b) = true := by split <;> assumption
end
end Mine
end
section
open PySem.Spec
namespace Mine
open PyProof.Rows.LCg (NsObj ns_obj lst lst_snoc Off3 Off1 CompEnd fr_but news_but FinE SrcAt)
noncomputable def JoinF (h₀ : Heap) (L : Addr) (m : Str → Option Value) (news : List (Addr × Obj)) (s : Shared) (f : Flow) (s' : Shared) : Prop :=
  f = .next ∧ ∃ h' tk, s' = { s with heap := h', toks := tk } ∧ Fr h₀ L h' m ∧ News h₀ L h' news
theorem JoinF.end {h₀ h' : Heap} {L : Addr} {m : Str → Option Value} {news all : List (Addr × Obj)} {s : Shared} {tk : Nat} (F : Fr h₀ L h' m) (N : News h₀ L h' all) (sub : ∀ p ∈ news, p ∈ all) : JoinF h₀ L m news s .next { s with heap := h', toks := tk } :=
  ⟨rfl, h', tk, rfl, F, kst_newsOf N sub⟩
theorem join_if {prog : Program} {w : World} {A : Around} {E : Value → Shared → Prop} {s : Shared} {Q : Flow → Shared → Prop} {st : Stmt} {env : Env} {h₀ : Heap} {L : Addr} {m : Str → Option Value} {news : List (Addr × Obj)} (_F : Fr h₀ L s.heap m) (_N : News h₀ L s.heap news)
    (h : wpAny (model prog w) A (exec st env) (JoinF h₀ L m news s) E s) (k : ∀ h' tk, Fr h₀ L h' m → News h₀ L h' news → Q .next { s with heap := h', toks := tk }) : wpAny (model prog w) A (exec st env) Q E s :=
  wpAny_mono h (fun v s' h' => by obtain ⟨rfl, h', tk, rfl, F', N'⟩ := h'; exact k h' tk F' N') fun _ _ e => e
noncomputable def spotsOf (p : Nat → Bool) (i : Nat) : List Int := ((List.range i).filter p).map Int.ofNat
theorem spots_succ (p : Nat → Bool) (i : Nat) : spotsOf p (i + 1) = if p i then spotsOf p i ++ [(i : Int)] else spotsOf p i := by
  unfold spotsOf
  rw [List.range_succ, List.filter_append, List.map_append]
  by_cases h : p i = true <;> simp [h]
theorem spots_len (p : Nat → Bool) (i : Nat) : (spotsOf p i).length ≤ i := by
  unfold spotsOf
  rw [List.length_map]
  exact Nat.le_trans (List.length_filter_le _ _) (by simp)
theorem spots_any (p : Nat → Bool) (n i : Nat) (hi : i < n) : (spotsOf p n).any (· == (i : Int)) = p i := by
  unfold spotsOf
  cases h : p i with
  | true =>
    rw [List.any_eq_true]
    exact ⟨(i : Int), List.mem_map.mpr ⟨i, List.mem_filter.mpr ⟨List.mem_range.mpr hi, h⟩, rfl⟩, by simp⟩
  | false =>
    rw [List.any_eq_false]
    intro x hx
    obtain ⟨j, hj, rfl⟩ := List.mem_map.mp hx
    have hp := (List.mem_filter.mp hj).2
    intro e
    have : j = i := by have e2 : (j : Int) = (i : Int) := by simpa using e
                       lia
    rw [this, h] at hp
    cases hp
theorem ints_snoc : ∀ {vs : List Value} {ys : List Int} {y : Int} {t : Tok}, IntsAre vs ys → IntsAre (vs ++ [.int y t]) (ys ++ [y])
  | _, _, y, t, .nil => .cons y t .nil
  | _, _, y, t, .cons a b h => .cons a b (ints_snoc h)
theorem ints_len {vs : List Value} {ys : List Int} (h : IntsAre vs ys) : vs.length = ys.length := by
  induction h with
  | nil => rfl
  | cons _ _ _ ih => simp [ih]
theorem spots_put {p : Nat → Bool} {i : Nat} {ys : List Value} {v : Int} {t : Tok} (h : IntsAre ys (spotsOf p i)) (hp : p i = true) (e : v = (i : Int)) : IntsAre (ys ++ [.int v t]) (spotsOf p (i + 1)) := by
  rw [spots_succ, if_pos hp, ← e]
  exact ints_snoc h
theorem spots_skip {p : Nat → Bool} {i : Nat} {ys : List Value} (h : IntsAre ys (spotsOf p i)) (hp : p i = false) : IntsAre ys (spotsOf p (i + 1)) := by
  rw [spots_succ, if_neg (by rw [hp]; decide)]
  exact h
theorem spots_put1 {p : Nat → Bool} {i : Nat} {ys : List Value} {v : Int} {t : Tok} (h : IntsAre ys ((spotsOf p i).map (· + 1))) (hp : p i = true) (e : v = (i : Int) + 1) : IntsAre (ys ++ [.int v t]) ((spotsOf p (i + 1)).map (· + 1)) := by
  rw [spots_succ, if_pos hp, List.map_append, e]
  exact ints_snoc h
theorem spots_skip1 {p : Nat → Bool} {i : Nat} {ys : List Value} (h : IntsAre ys ((spotsOf p i).map (· + 1))) (hp : p i = false) : IntsAre ys ((spotsOf p (i + 1)).map (· + 1)) := by
  rw [spots_succ, if_neg (by rw [hp]; decide)]
  exact h
section
variable {prog : Program} {w : World} {A : Around} {s₁ : Shared} {h₀ : Heap} {L : Addr} {m : Str → Option Value} {env : Env} {elt : Expr} {x : Str} {ifs : List Expr} {scope : Scope} {cl : List (Str × Addr)} {Q : Value → Shared → Prop} {news : List (Addr × Obj)}
noncomputable def TurnF (prog : Program) (w : World) (A : Around) (h₀ : Heap) (L : Addr) (m : Str → Option Value) (env : Env) (elt : Expr) (x : Str) (ifs : List Expr) (scope : Scope) (cl : List (Str × Addr)) (s : Shared) (news : List (Addr × Obj)) (P : Nat → Value → Prop)
    (Inv : Nat → List Value → Prop) (n : Nat) : Prop :=
  ∀ i ys v I oI C oC D m₂ h tk (E' : Value → Shared → Prop), i < n → Inv i ys → P i v → NsObj oC m₂ → m₂ x = some v → Fr h₀ L h m → News h₀ L h ((I, oI) :: (C, oC) :: (D, lst ys) :: news) → Off3 I C D news → ((@Ne Nat I C) ∧ (@Ne Nat I D) ∧ (@Ne Nat C D)) →
    wpAny (model prog w) A (testsOf ifs (compEnvC scope cl C env)) (fun ok s₃ => if ok = true
      then wpAny (model prog w) A (eval elt (compEnvC scope cl C env)) (CompEnd h₀ L m { s with heap := h, toks := tk } I oI C oC D (lst ys) (fun nw => nw = news) (fun y _ => Inv (i + 1) (ys ++ [y]))) E' s₃
      else CompEnd h₀ L m { s with heap := h, toks := tk } I oI C oC D (lst ys) (fun nw => nw = news) (fun _ _ => Inv (i + 1) ys) .none s₃) E' { s with heap := h, toks := tk }
theorem turnF {s : Shared} {S : List (Addr × Obj) → Prop} {P : Nat → Value → Prop} {Inv : Nat → List Value → Prop} {n : Nat} (hS : S news) (T : TurnF prog w A h₀ L m env elt x ifs scope cl s news P Inv n) :
    Turn prog w A h₀ L m env elt x ifs scope cl s S P (fun i ys nw => nw = news ∧ Inv i ys) n := by
  rintro i ys nw v I oI C oC D m₂ h tk E' hi ⟨rfl, hinv⟩ _ hP hoC hmx F N off dis
  have up : ∀ (R : Value → Prop) y s', CompEnd h₀ L m { s with heap := h, toks := tk } I oI C oC D (lst ys) (fun nw' => nw' = nw) (fun y _ => R y) y s' → CompEnd h₀ L m { s with heap := h, toks := tk } I oI C oC D (lst ys) S (fun y nw' => nw' = nw ∧ R y) y s' := by
    rintro R y s' ⟨h', tk', n', e, F', N', o', rfl, r⟩
    exact ⟨h', tk', _, e, F', N', o', hS, rfl, r⟩
  refine wpAny_mono (T i ys v I oI C oC D m₂ h tk E' hi hinv hP hoC hmx F N off dis) (fun ok s₃ h₃ => ?_) fun _ _ e => e
  cases ok with
  | true =>
    simp only [if_true] at h₃ ⊢
    exact wpAny_mono h₃ (fun y s' c => up _ y s' c) fun _ _ e => e
  | false =>
    simp only [Bool.false_eq_true, if_false] at h₃ ⊢
    exact up (fun _ => Inv (i + 1) ys) _ _ h₃
theorem CSrc.rangeF {r : Addr} {b : Int} {t u v : Tok} (n : Nat) (Inv : Nat → List Value → Prop) (hh : A.handled = none) (F : Fr h₀ L s₁.heap m) (N : News h₀ L s₁.heap news) (hr : (r, rangeObj 0 b t u v) ∈ news) (hb : b = (n : Int)) (hsz : n ≤ 10000)
    (hlen : ∀ i ys, Inv i ys → ys.length ≤ i) (h0 : Inv 0 [])
    (turn : ∀ g, TurnF prog w A h₀ L m env elt x ifs scope cl { s₁ with heap := g } news (fun i v => ∃ t, v = .int (0 + (i : Int)) t) Inv n) (fin : ∀ g ys, Inv n ys → FinE h₀ L m { s₁ with heap := g } Q ys news) :
    CSrc prog w A h₀ L m env elt x ifs scope cl Q (.ref r) s₁ := by
  subst hb
  refine CSrc.range (n := n) (fun i ys nw => nw = news ∧ Inv i ys) hh F N (N _ hr).1 (small_one (by lia) (by omega) (by omega) (by omega)) (by rw [rangeSize_nat]; congr 2) (by rw [sizeLine_eq]; omega) (fun i ys nw h => hlen i ys h.2) ⟨rfl, h0⟩ (fun g => turnF trivial (turn g)) ?_
  rintro g ys nw ⟨rfl, h⟩
  exact fin g ys h
theorem CSrc.textF {y : Str} {t : Tok} (Inv : Nat → List Value → Prop) (hh : A.handled = none) (F : Fr h₀ L s₁.heap m) (N : News h₀ L s₁.heap news) (hsz : y.length ≤ 10000)
    (hlen : ∀ i ys, Inv i ys → ys.length ≤ i) (h0 : Inv 0 [])
    (turn : ∀ g, TurnF prog w A h₀ L m env elt x ifs scope cl { s₁ with heap := g } news (SignAt y) Inv y.cps.size) (fin : ∀ g ys, Inv y.cps.size ys → FinE h₀ L m { s₁ with heap := g } Q ys news) :
    CSrc prog w A h₀ L m env elt x ifs scope cl Q (.str y t) s₁ := by
  refine CSrc.text (fun i ys nw => nw = news ∧ Inv i ys) hh F N (by rw [sizeLine_eq]; have : y.cps.size = y.length := rfl; omega) (fun i ys nw h => hlen i ys h.2) ⟨rfl, h0⟩ (fun g => turnF trivial (turn g)) ?_
  rintro g ys nw ⟨rfl, h⟩
  exact fin g ys h
end
end Mine
end
section
namespace Mine
theorem OK5.gdK5 : True := trivial
open OK5
theorem wd_K5_1 : True := by (k_with "execs cons" => (k_here; (with_reducible show wpAny _ _ (execs (_ :: _) _) _ _ _); (try k_made); (with_reducible rename Fr _ _ _ _ => kFq); (with_reducible rename News _ _ _ _ => kNq); (refine execsXg kFq kNq ?_); intro _ _ _ _ _ _; (try k_sweep))); (k_with "execs cons" => (k_here; (with_reducible show wpAny _ _ (execs (_ :: _) _) _ _ _); (fail_if_success (with_reducible refine gGq GI.z ?_)); (try k_made); k_dflt (refine' withG ?_ ?_ ?_ ?_; rotate_right 4; (k_asm); (k_asm); (rfl); k_whole); intro _ _ _ gGq)); (k_with "spliced" => (k_here; (refine args_consG ?_); intro _)); (k_with "spliced" => (k_here; (with_reducible refine args_nil ?_); (try dsimp only [List.cons_append, List.nil_append]))); (k_with "spliced" => (k_here; (with_reducible show wpAny _ _ (spliced (backTo _ (starEach (PySem.Expr.Name _ _ :: _) _))) _ _ _); (with_reducible refine' gGq GI.a ?_ ?_ ?_ ?_; rotate_right 4); k_dflt ((rotate_left 1; (kernel_rfl); rotate_right 1); (k_asm); (focus ((((repeat (first | with_reducible exact nm_hit | ((with_reducible refine Eq.trans (nm_miss ?_) ?_; kernel_rfl)))); (try rfl))); done)); k_whole))); (k_with "spliced" => (k_here; (with_reducible show wpAny _ _ (spliced (backTo _ (starEach (PySem.Expr.Constant _ _ _ :: _) _))) _ _ _); (first | with_reducible refine gGq GI.i ?_ | with_reducible refine gGq GI.t ?_))); (k_with "spliced" => (k_here; (with_reducible show wpAny _ _ (spliced (backTo _ (starEach [] _))) (KCons _ _) _ _); k_dflt (first | ((with_reducible refine' gGq GI.n1 ?_ ?_ ?_; rotate_right 3; (k_asm); (k_asm))) | ((with_reducible refine' gGq GI.n2 ?_ ?_ ?_; rotate_right 3; (k_asm); (k_asm))) | ((with_reducible refine' gGq GI.n3 ?_ ?_ ?_; rotate_right 3; (k_asm); (k_asm))) | ((with_reducible refine' gGq GI.n4 ?_ ?_ ?_; rotate_right 3; (k_asm); (k_asm))) | with_reducible refine gGq GI.b1 ?_ | with_reducible refine gGq GI.b2 ?_ | with_reducible refine gGq GI.l1 ?_ | with_reducible refine gGq GI.l2 ?_ | with_reducible refine gGq GI.l3 ?_ | with_reducible refine gGq GI.t1 ?_ | with_reducible refine gGq GI.t2 ?_ | with_reducible refine gGq GI.t3 ?_))); (k_with "eval Name" => (k_here; (fail_if_success (with_reducible show wpAny _ _ (eval (PySem.Expr.Name _ _) (compEnvC _ _ _ _)) _ _ _)); name_kind "local"; (with_reducible refine' gGq GI.l ?_ ?_ ?_ ?_; rotate_right 4); k_dflt ((rotate_left 1; (kernel_rfl); rotate_right 1); (k_asm); (focus ((((repeat (first | with_reducible exact nm_hit | ((with_reducible refine Eq.trans (nm_miss ?_) ?_; kernel_rfl)))); (try rfl))); done)); k_whole))); (k_with "storeName" => (k_here; (first | ((with_reducible refine' gGq GI.s ?_ ?_ ?_ ?_; rotate_right 4)) | ((with_reducible refine' gGq GI.u ?_ ?_ ?_ ?_; rotate_right 4))); k_dflt ((rotate_left 2; (kernel_rfl!); rotate_right 2); (k_asm); (k_asm); k_whole; intro _ _ _ _ _; (try k_sweep)))); (k_with "eval Call" => (k_here; (with_reducible show wpAny _ _ (eval (PySem.Expr.Call (PySem.Expr.Name _ _) (_ :: _) [] _) _) _ _ _); k_dflt (first | (((with_reducible refine' gGq GI.k ?_ ?_ ?_ ?_ ?_ ?_ ?_ ?_; rotate_right 8); (rotate_left 3; (kernel_rfl); rotate_right 3); (k_asm); (k_asm); (k_asm); (focus ((k_is); done)); (focus ((k_is); done)); (rfl); k_whole)) | (((fail_if_success (with_reducible first | show wpAny _ _ (eval (PySem.Expr.Call (PySem.Expr.Name (PySem.Str.ofString "range") _) _ _ _) _) _ _ _ | show wpAny _ _ (eval (PySem.Expr.Call (PySem.Expr.Name (PySem.Str.ofString "str") _) _ _ _) _) _ _ _ | show wpAny _ _ (eval (PySem.Expr.Call (PySem.Expr.Name (PySem.Str.ofString "enumerate") _) _ _ _) _) _ _ _ | show wpAny _ _ (eval (PySem.Expr.Call (PySem.Expr.Name (PySem.Str.ofString "list") _) _ _ _) _) _ _ _ | show wpAny _ _ (eval (PySem.Expr.Call (PySem.Expr.Name (PySem.Str.ofString "int") _) _ _ _) _) _ _ _ | show wpAny _ _ (eval (PySem.Expr.Call (PySem.Expr.Name (PySem.Str.ofString "tuple") _) _ _ _) _) _ _ _)); (with_reducible refine' gGq GI.b ?_ ?_ ?_ ?_ ?_ ?_ ?_ ?_ ?_; rotate_right 9); (rotate_left 3; (kernel_rfl); rotate_right 3); (k_asm); (k_asm); (k_asm); (focus ((k_is); done)); (focus ((boot_fast); done)); (decide +kernel); (rfl); k_whole))))); (k_with "enter" => (k_dflt (refine' codeG ?_ ?_ ?_ ?_ ?_ ?_ ?_ ?_ ?_ ?_ ?_ ?_ ?_ ?_ ?_ ?_ ?_ ?_; rotate_right 18; (rotate_left 5; (exact rfl); rotate_right 5); (rotate_left 5; (exact rfl); rotate_right 5); (rotate_left 5; (focus ((first | assumption | exact rfl); done)); rotate_right 5); (k_asm); (k_asm); (k_asm); (k_asm); (k_asm); (focus ((k_is); done)); (focus ((k_is); done)); (focus ((k_room); done)); (exact BindsTo.of_eq rfl); (rotate_left 5; (decide); rotate_right 5); (exact locs rfl); (rotate_left 1; (exact rfl); rotate_right 1); (rotate_left 1; (exact rfl); rotate_right 1); (rotate_left 1; (exact rfl); rotate_right 1); k_whole; intro _ _ _ _ _ _ _ _ _ _ _ gBq _ _ gGq; (try k_lift gBq)))); (k_with "call ref" => (k_here; k_extra "enter")); trivial
theorem wd_K5_2 : True := by (k_with "call type:range" => ((fail_if_success (fail_if_success (have : True := gdK5))); ((k_here; k_dflt (first | ((refine' range1N ?_ ?_ ?_; rotate_right 3; (rotate_left 1; (k_asm); rotate_right 1); (k_asm))) | ((refine' range2N ?_ ?_ ?_; rotate_right 3; (rotate_left 1; (k_asm); rotate_right 1); (k_asm)))); intro rR hR xR uR vR tkR fR nR)))); (k_with "exec Assign cons ListComp" => ((fail_if_success (fail_if_success (have : True := gdK5))); ((k_here; k_dflt (refine' comp_invA ?_ ?_ ?_ ?_ ?_ ?_ ?_ ?_ ?_ ?_ ?_ ?_; rotate_right 12; (k_asm); (rfl); (with_unfolding_all rfl); (with_unfolding_all rfl); (decide); (rfl); (decide); (rfl); (rfl); (rfl); (rotate_left 1; (focus (((intro _; rfl)); done)); rotate_right 1)))))); (k_with "eval ListComp" => ((fail_if_success (fail_if_success (have : True := gdK5))); ((k_here; k_dflt (refine' comp_inv ?_ ?_ ?_ ?_ ?_ ?_ ?_ ?_; rotate_right 8; (k_asm); (with_unfolding_all rfl); (decide); (rfl); (decide); (rfl); (rotate_left 1; (focus (((intro _; rfl)); done)); rotate_right 1)))))); (k_with "call ref" => ((k_here; k_dflt (refine Stop.go ?_)))); (k_with "eval IfExp" => ((fail_if_success (fail_if_success (have : True := gdK5))); ((k_here; (fail_if_success (with_reducible show wpAny _ _ _ (JoinS _ _ _ _ _ _) _ _)); k_dflt (refine Stop.go ?_))))); (k_with "exec If" => ((fail_if_success (fail_if_success (have : True := gdK5))); ((k_here; (with_reducible show wpAny _ _ (PySem.exec (Stmt.If (Expr.BoolOp BoolOp.And _ _) _ _ _) _) _ _ _); (fail_if_success (with_reducible show wpAny _ _ _ (JoinF _ _ _ _ _) _ _)); k_dflt (refine Stop.go ?_))))); (k_with "CompEnd" => ((fail_if_success (fail_if_success (have : True := gdK5))); ((k_here; k_dflt (refine Stop.go ?_))))); (k_with "compareOp Eq str str" => ((fail_if_success (fail_if_success (have : True := gdK5))); ((k_here; k_dflt (refine' eqS_yes ?_ ?_; rotate_right 2; (focus ((first | rfl | exact lawj_left (by omega) | exact lawj_right (by omega) | exact lawj_mid (by omega) | exact lawj_third (by omega) (by omega) | exact (law_whole _ _ (by omega)).trans (if_neg (by omega)).symm | exact law_seg _ _ _ _ (fun i hi => spots_any _ _ _ hi) | ((exfalso; omega))); done))))))); (k_with "compareOp NotEq str str" => ((fail_if_success (fail_if_success (have : True := gdK5))); ((k_here; k_dflt (refine' neS_no ?_ ?_; rotate_right 2; (focus ((first | rfl | exact lawj_left (by omega) | exact lawj_right (by omega) | exact lawj_mid (by omega) | exact lawj_third (by omega) (by omega) | exact (law_whole _ _ (by omega)).trans (if_neg (by omega)).symm | exact law_seg _ _ _ _ (fun i hi => spots_any _ _ _ hi) | ((exfalso; omega))); done))))))); (k_with "compareOp Eq int int" => ((fail_if_success (fail_if_success (have : True := gdK5))); ((k_here; k_dflt (refine' eqI_yes ?_ ?_; rotate_right 2; (focus ((first | rfl | exact lawj_left (by omega) | exact lawj_right (by omega) | exact lawj_mid (by omega) | exact lawj_third (by omega) (by omega) | exact (law_whole _ _ (by omega)).trans (if_neg (by omega)).symm | exact law_seg _ _ _ _ (fun i hi => spots_any _ _ _ hi) | ((exfalso; omega))); done))))))); (k_with "compareOp NotEq int int" => ((fail_if_success (fail_if_success (have : True := gdK5))); ((k_here; k_dflt (refine' neI_no ?_ ?_; rotate_right 2; (focus ((first | rfl | exact lawj_left (by omega) | exact lawj_right (by omega) | exact lawj_mid (by omega) | exact lawj_third (by omega) (by omega) | exact (law_whole _ _ (by omega)).trans (if_neg (by omega)).symm | exact law_seg _ _ _ _ (fun i hi => spots_any _ _ _ hi) | ((exfalso; omega))); done))))))); (k_with "compareOp NotEq ref ref" => ((fail_if_success (fail_if_success (have : True := gdK5))); ((k_here; k_dflt (refine' ne_strs2 ?_ ?_ ?_ ?_ ?_ ?_ ?_ ?_ ?_; rotate_right 9; (k_asm); (focus ((k_mem); done)); (focus ((k_mem); done)); (rotate_left 2; (focus ((first | rfl | exact lawj_left (by omega) | exact lawj_right (by omega) | exact lawj_mid (by omega) | exact lawj_third (by omega) (by omega) | exact (law_whole _ _ (by omega)).trans (if_neg (by omega)).symm | exact law_seg _ _ _ _ (fun i hi => spots_any _ _ _ hi)); done)); rotate_right 2); (rotate_left 2; (focus ((first | rfl | exact lawj_left (by omega) | exact lawj_right (by omega) | exact lawj_mid (by omega) | exact lawj_third (by omega) (by omega) | exact (law_whole _ _ (by omega)).trans (if_neg (by omega)).symm | exact law_seg _ _ _ _ (fun i hi => spots_any _ _ _ hi)); done)); rotate_right 2); (focus ((first | decide | exact ok_if (ok_take (by assumption) _) ok_FC | exact ok_if (ok_drop (by assumption) _) ok_FC | exact ok_if (ok_both (by assumption) _ _) ok_FC); done)); (focus ((first | decide | exact ok_if (ok_take (by assumption) _) ok_FC | exact ok_if (ok_drop (by assumption) _) ok_FC | exact ok_if (ok_both (by assumption) _ _) ok_FC); done)); (ktr_units)))))); trivial
theorem c_cuts {w : World} {mean : ExcName → Option Value} {mg mb : Str → Option Value} {pd cl : Addr} {o : Obj} {vs : List Value} {ns : List Int} {cc : Nat} {c : Int}  (hne : cl ≠ pd) (hI : IntsAre vs ns) (hns : ns.length ≤ 64) (hP : PoolIs w o cl c) (hc0 : 0 ≤ c) (hc1 : c ≤ 100)  :
   Cl w mean mg mb 405 150 [(pd, o), (cl, W.listOf vs.toArray cc)] [.ref pd] := by
  refine shed ?_ fun _ n h => ?_
  focus (
  dsimp only [Cl]
  intro dp un gd cn cs a ccd cl' A₀ base h₀ L m s Q E B F X N T hk XB TB hd hu hret
  refine wpAny_call ?_
  k_dflt (refine' code_defE0C B F X N T ?kA ?hf ?hke ?k6 ?k7 ?k8 ?k9 ?kB ?kD ?_ ?c2 ?c3 ?c4; (case kA => exact rfl); (case hf => exact rfl); (case hke => exact hk); (case k6 => k_is); (case k7 => k_is); (case k8 => ktr_room); (case k9 => exact BindsTo.of_eq rfl); (case kB => exact rfl); (case kD => decide +kernel); (case c2 => exact rfl); (case c3 => exact rfl); (case c4 => exact rfl); k_whole)
  intro g' L' h' tk' cells' FG' F' N' Y' B' X' T' D' l1
  (try k_lt l1)
  obtain ⟨oc1, oc2, hE, d1, d2⟩ := CellsAre.two Y'
  subst hE
  (try simp only [List.cons_append, List.nil_append] at N')
  (try dsimp only)
  (try k_lift B')
  (try k_fold)
  k_steps
  k_extra "So"
  k_dflt (refine' c_signsX ?U ?hm ?hne ?hI ?hns ?hP ?c0 ?c1 ?k0 ?k1 _ _ _ _ _ _ _ _ _ _ _ _ _ _ _ _ _ ?kB ?kF ?kX ?kN ?kT ?kk trivial ?hd ?hu ?_; (case kN => k_asm); k_extra "cF"; (case U => k_updF); (case hP => assumption); (case hm => k_mem); (case hne => first | assumption | k_ne); (case hI => assumption); (case hns => assumption); (case c0 => omega); (case c1 => omega); (case k0 => omega); (case k1 => omega); k_extra "cH")
  intro x t_x o_x c_x h_x k_x c0_x c1_x x_l x_a P_x F_x N_x
  (try dsimp only at N_x)
  k_steps
  k_extra "So"
  k_dflt (refine' c_draw ?U ?hm ?hne ?hI ?hns ?hP ?c0 ?c1 ?k0 ?k1 _ _ _ _ _ _ _ _ _ _ _ _ _ _ _ _ _ ?kB ?kF ?kX ?kN ?kT ?kk trivial ?hd ?hu ?_; (case kN => k_asm); k_extra "cF"; (case U => k_updF); (case hP => assumption); (case hm => k_mem); (case hne => first | assumption | k_ne); (case hI => assumption); (case hns => assumption); (case c0 => omega); (case c1 => omega); (case k0 => omega); (case k1 => omega); k_extra "cH")
  intro r t_r o_r h_r k_r r_0 r_1 P_r F_r N_r
  (try dsimp only at N_r)
  k_steps
  k_extra "So"
  k_dflt (refine' c_draw ?U ?hm ?hne ?hI ?hns ?hP ?c0 ?c1 ?k0 ?k1 _ _ _ _ _ _ _ _ _ _ _ _ _ _ _ _ _ ?kB ?kF ?kX ?kN ?kT ?kk trivial ?hd ?hu ?_; (case kN => k_asm); k_extra "cF"; (case U => k_updF); (case hP => assumption); (case hm => k_mem); (case hne => first | assumption | k_ne); (case hI => assumption); (case hns => assumption); (case c0 => omega); (case c1 => omega); (case k0 => omega); (case k1 => omega); k_extra "cH")
  intro q t_q o_q h_q k_q q_0 q_1 P_q F_q N_q
  (try dsimp only at N_q)
  k_steps
  k_extra "So"
  (rename Fr _ L' _ _ => jF); (rename News _ L' _ _ => jN)
  refine join_str (if r - 1 < 0 then FC else keptR 0 (r - 1) x) jF jN ?_ ?_
  · k_steps
    all_goals first
      | exact JoinS.end (by k_asm) (by k_asm) (if_pos (by omega)).symm (fun p hp => hp)
      | (k_extra "So"
         k_dflt (refine' (c_kept ?hm ?hin ?hx) _ _ _ _ _ _ _ _ _ _ _ _ _ _ _ _ _ ?kB ?kF ?kX ?kN ?kT ?kk trivial ?hd ?hu ?_; (case kN => k_asm); k_extra "cF"; (case hm => k_mem); (case hin => exact inBy_range _ _ _ _ _); (case hx => omega); k_extra "cH"); intro tD hD tkD fD nD
         k_steps
         exact JoinS.end (by k_asm) (by k_asm) (if_neg (by omega)).symm (fun p hp => .tail _ hp))
  intro jt jh jk jF' jN'
  k_steps
  k_extra "So"
  (rename Fr _ L' _ _ => jF); (rename News _ L' _ _ => jN)
  refine join_str (if r - 1 < 0 then FC else keptR (if 0 > (x.length : Int) - (r - 1) then 0 else (x.length : Int) - (r - 1)) (x.length : Int) x) jF jN ?_ ?_
  · k_steps
    all_goals first
      | exact JoinS.end (by k_asm) (by k_asm) (if_pos (by omega)).symm (fun p hp => hp)
      | (k_extra "So"
         k_dflt (refine' (c_kept ?hm ?hin ?hx) _ _ _ _ _ _ _ _ _ _ _ _ _ _ _ _ _ ?kB ?kF ?kX ?kN ?kT ?kk trivial ?hd ?hu ?_; (case kN => k_asm); k_extra "cF"; (case hm => k_mem); (case hin => exact inBy_range _ _ _ _ _); (case hx => omega); k_extra "cH"); intro tD hD tkD fD nD
         k_steps
         exact JoinS.end (by k_asm) (by k_asm) (if_neg (by omega)).symm (fun p hp => .tail _ hp))
  intro jt jh jk jF' jN'
  k_steps
  k_extra "So"
  (rename Fr _ L' _ _ => jF); (rename News _ L' _ _ => jN)
  refine join_str (if r - 1 < 1 then FC else keptR (r - 1 - 1) (x.length : Int) x) jF jN ?_ ?_
  · k_steps
    all_goals first
      | exact JoinS.end (by k_asm) (by k_asm) (if_pos (by omega)).symm (fun p hp => hp)
      | (k_extra "So"
         k_dflt (refine' (c_kept ?hm ?hin ?hx) _ _ _ _ _ _ _ _ _ _ _ _ _ _ _ _ _ ?kB ?kF ?kX ?kN ?kT ?kk trivial ?hd ?hu ?_; (case kN => k_asm); k_extra "cF"; (case hm => k_mem); (case hin => exact inBy_range _ _ _ _ _); (case hx => omega); k_extra "cH"); intro tD hD tkD fD nD
         k_steps
         exact JoinS.end (by k_asm) (by k_asm) (if_neg (by omega)).symm (fun p hp => .tail _ hp))
  intro jt jh jk jF' jN'
  k_steps
  k_extra "So"
  (rename Fr _ L' _ _ => jF); (rename News _ L' _ _ => jN)
  refine join_str (if r - 1 < 1 ∨ q - 1 < 0 then FC else keptR (r - 1 - 1) (r - 1 - 1 + (q - 1)) x) jF jN ?_ ?_
  · k_steps
    all_goals first
      | exact JoinS.end (by k_asm) (by k_asm) (if_pos (by omega)).symm (fun p hp => hp)
      | (k_extra "So"
         k_dflt (refine' (c_kept ?hm ?hin ?hx) _ _ _ _ _ _ _ _ _ _ _ _ _ _ _ _ _ ?kB ?kF ?kX ?kN ?kT ?kk trivial ?hd ?hu ?_; (case kN => k_asm); k_extra "cF"; (case hm => k_mem); (case hin => exact inBy_range _ _ _ _ _); (case hx => omega); k_extra "cH"); intro tD hD tkD fD nD
         k_steps
         exact JoinS.end (by k_asm) (by k_asm) (if_neg (by omega)).symm (fun p hp => .tail _ hp))
  intro jt jh jk jF' jN'
  k_steps
  k_extra "So"
  k_dflt (refine' (hj_left ?qm ?q0 ?q1) _ _ _ _ _ _ _ _ _ _ _ _ _ _ _ _ _ _ ?kB ?kF ?kX ?kN ?kT ?kk ?XB ?TB ?kD ?T0 trivial ?hd ?hu ?_; (case kN => k_asm); (case qm => k_mem); (case q0 => omega); (case q1 => omega); k_extra "cF"; k_extra "cX"; k_extra "cH")
  intro tH1 gH1 hH1 kH1 T1 F1 N1 B1 X1 P1 D1
  (try k_lift B1)
  (try dsimp only)
  k_steps
  k_extra "So"
  k_dflt (refine' (hj_right ?qm ?q0 ?q1) _ _ _ _ _ _ _ _ _ _ _ _ _ _ _ _ _ _ ?kB ?kF ?kX ?kN ?kT ?kk ?XB ?TB ?kD ?T0 trivial ?hd ?hu ?_; (case kN => k_asm); (case qm => k_mem); (case q0 => omega); (case q1 => omega); k_extra "cF"; k_extra "cX"; k_extra "cH")
  intro tH2 gH2 hH2 kH2 T2 F2 N2 B2 X2 P2 D2
  (try k_lift B2)
  (try dsimp only)
  k_steps
  k_extra "So"
  k_dflt (refine' (hj_mid2 ?qm ?q0 ?q1) _ _ _ _ _ _ _ _ _ _ _ _ _ _ _ _ _ _ ?kB ?kF ?kX ?kN ?kT ?kk ?XB ?TB ?kD ?T0 trivial ?hd ?hu ?_; (case kN => k_asm); (case qm => k_mem); (case q0 => omega); (case q1 => omega); k_extra "cF"; k_extra "cX"; k_extra "cH")
  intro tH3 gH3 hH3 kH3 T3 F3 N3 B3 X3 P3 D3
  (try k_lift B3)
  (try dsimp only)
  k_steps
  k_extra "So"
  k_dflt (refine' (hj_mid3 ?qm ?q0 ?q1 ?q2) _ _ _ _ _ _ _ _ _ _ _ _ _ _ _ _ _ _ ?kB ?kF ?kX ?kN ?kT ?kk ?XB ?TB ?kD ?T0 trivial ?hd ?hu ?_; (case kN => k_asm); (case qm => k_mem); (case q0 => k_mem); (case q1 => omega); (case q2 => omega); k_extra "cF"; k_extra "cX"; k_extra "cH")
  intro tH4 gH4 hH4 kH4 T4 F4 N4 B4 X4 P4 D4
  (try k_lift B4)
  (try dsimp only)
  k_steps
  k_extra "So"
  (rename Fr _ L' _ _ => jF); (rename News _ L' _ _ => jN)
  refine join_if jF jN ?_ ?_
  · skip
    k_steps
    all_goals first
      | exact JoinF.end (by k_asm) (by k_asm) (fun p hp => hp)
      | (skip
         k_steps
         k_extra "So"
         k_dflt (refine' mk_world ?k1 ?k2 ?k3 ?k4 ?k5 ?kA ?kF ?kK ?kd ?_; (case k1 => k_asm); (case k2 => k_asm); (case k3 => k_asm); (case k4 => k_asm); (case k5 => k_asm); (case kA => exact rfl); (case kF => exact rfl); (case kK => exact rfl); (case kd => ktr_room))
         intro wd wdd wes wn wh wtk wF wN hbits hdigs
         k_steps
         k_extra "So"
         k_dflt (refine' (c_mid3v ?q0 ?q1 ?q2 ?q3) _ _ _ _ _ _ _ _ _ _ _ _ _ _ _ _ _ ?kB ?kF ?kX ?kN ?kT ?kk trivial ?hd ?hu ?_; (case kN => k_asm); k_extra "cF"; (case q0 => k_mem); (case q1 => omega); (case q2 => omega); (case q3 => omega); k_extra "cH")
         intro tO5 hO5 kO5 FO5 NO5
         (try dsimp only)
         k_steps
         (refine' JoinF.end ?jF ?jN ?jS; (case jF => k_asm); (case jN => k_asm); (case jS => (intro p hp; repeat (first | assumption | refine List.mem_cons_of_mem _ ?_))))
         )
  intro jh jk jF' jN'
  k_steps
  (rename Fr _ L' _ _ => hF); (rename News _ L' _ _ => hN)
  refine' CSrc.rangeF x.length (fun i ys => IntsAre ys (spotsOf (fun j => decide (r - 1 ≤ (j : Int) + 1) && decide ((j : Int) + 1 ≤ q - 1)) i)) rfl hF hN ?a1 rfl (by omega) ?a4 .nil ?a6 ?a7
  case a1 => k_mem
  case a4 => exact fun i ys h => by rw [ints_len h]; exact spots_len _ _
  case a6 =>
    intro g i ys v I oI C oC D m₂ hh tk E' hi hs hv; apply ex1E hv; clear hv; intro tv hoC hmx F2 N2 hoff hdis
    clear hdis
    refine wpAny_tests_one ?_
    k_steps
    all_goals (k_extra "So"; (rename Fr _ L' _ _ => fE); (rename News _ L' _ _ => nE); refine LCg.CompEnd.intro fE nE _ (fun p hp => hp) hoff rfl ?_)
    all_goals first
      | exact spots_put hs (by simp only [Bool.and_eq_true, decide_eq_true_eq]; omega) (by omega)
      | exact spots_skip hs (by simp only [Bool.and_eq_false_iff, decide_eq_false_iff_not]; omega)
  rintro g ys hi D hh tk F2 N2 _
  k_steps
  k_extra "So"
  k_dflt (refine' (c_kept ?hm ?hin ?hx) _ _ _ _ _ _ _ _ _ _ _ _ _ _ _ _ _ ?kB ?kF ?kX ?kN ?kT ?kk trivial ?hd ?hu ?_; (case kN => k_asm); k_extra "cF"; (case hm => k_mem); (case hin => exact inBy_list (by assumption)); (case hx => omega); k_extra "cH"); intro tD hD tkD fD nD
  k_steps
  k_extra "So"
  k_dflt (refine' (h_seg ?qm ?q0 ?q1) _ _ _ _ _ _ _ _ _ _ _ _ _ _ _ _ _ _ ?kB ?kF ?kX ?kN ?kT ?kk ?XB ?TB ?kD ?T0 trivial ?hd ?hu ?_; (case kN => k_asm); (case qm => k_mem); (case q0 => omega); (case q1 => omega); k_extra "cF"; k_extra "cX"; k_extra "cH")
  intro tH6 gH6 hH6 kH6 T6 F6 N6 B6 X6 P6 D6
  (try k_lift B6)
  (try dsimp only)
  k_steps
  k_extra "So"
  k_dflt (refine' (h_left_x ?qm ?q0 ?q1 ?q2) _ _ _ _ _ _ _ _ _ _ _ _ _ _ _ _ _ _ ?kB ?kF ?kX ?kN ?kT ?kk ?XB ?TB ?kD ?T0 trivial ?hd ?hu ?_; (case kN => k_asm); (case qm => k_mem); (case q0 => omega); (case q1 => omega); (case q2 => omega); k_extra "cF"; k_extra "cX"; k_extra "cH")
  intro tH7 gH7 hH7 kH7 T7 F7 N7 B7 X7 P7 D7
  (try k_lift B7)
  (try dsimp only)
  k_steps
  k_extra "So"
  k_dflt (refine' (h_left_tm ?qm ) _ _ _ _ _ _ _ _ _ _ _ _ _ _ _ _ _ _ ?kB ?kF ?kX ?kN ?kT ?kk ?XB ?TB ?kD ?T0 trivial ?hd ?hu ?_; (case kN => k_asm); (case qm => k_mem); k_extra "cF"; k_extra "cX"; k_extra "cH")
  intro tH8 gH8 hH8 kH8 T8 F8 N8 B8 X8 P8 D8
  (try k_lift B8)
  (try dsimp only)
  k_steps
  k_extra "So"
  k_dflt (refine' (h_mid_tm ?qm ) _ _ _ _ _ _ _ _ _ _ _ _ _ _ _ _ _ _ ?kB ?kF ?kX ?kN ?kT ?kk ?XB ?TB ?kD ?T0 trivial ?hd ?hu ?_; (case kN => k_asm); (case qm => k_mem); k_extra "cF"; k_extra "cX"; k_extra "cH")
  intro tH9 gH9 hH9 kH9 T9 F9 N9 B9 X9 P9 D9
  (try k_lift B9)
  (try dsimp only)
  k_steps
  exact hret _ _ (by k_asm)
  )
  simpa using pick n 5 h
end Mine
end
section
open PySem.Spec
namespace Mine
theorem hit_len {x y : Str} {a : Nat} (h : hitAt x y (a : Int) = true) : y.length = min (a + y.length) x.length - a := by
  have e : Txt.slice x (some (a : Int)) (some ((a : Int) + y.length)) = y := by simpa [hitAt] using h
  rw [slice_ab x _ _ (by omega) (by omega)] at e
  have := congrArg Str.length e
  rw [St_len, List.length_drop, List.length_take, cd_len, show ((a : Int) + (y.length : Int)).toNat = a + y.length from rfl, Int.toNat_natCast] at this
  exact this.symm
theorem hit_nil {x y : Str} {a : Nat} (hy : y.length = 0) : hitAt x y (a : Int) = true := by
  have hy' : y = St [] := by
    rw [← St_cd y]
    congr 1
    exact List.eq_nil_of_length_eq_zero (by rw [cd_len]; exact hy)
  simp only [hitAt, beq_iff_eq]
  rw [slice_ab x _ _ (by omega) (by omega), hy, List.drop_take]
  rw [show ((a : Int) + ((0 : Nat) : Int)).toNat - (a : Int).toNat = 0 by lia, List.take_zero, hy']
theorem findIx_of {x y : Str} (f : Nat) (k : Nat) : findIx x y f (k : Int) = (((List.range f).find? fun j => hitAt x y ((k + j : Nat) : Int)).map fun j => ((k + j : Nat) : Int) + 1).getD 0 := by
  cases e : (List.range f).find? fun j => hitAt x y ((k + j : Nat) : Int) with
  | none =>
    rw [List.find?_eq_none] at e
    have := findIx_skip (x := x) (y := y) (f := 0) f (k : Int) fun i hi => by
      have := e i (List.mem_range.mpr hi)
      simpa using this
    simpa [findIx] using this
  | some j =>
    rw [List.find?_range_eq_some] at e
    first | (refine and3 e ?_; clear e; intro h1 h2 h3) | obtain ⟨h1, h2, h3⟩ := e
    have hj : j < f := List.mem_range.mp h2
    obtain ⟨f', rfl⟩ : ∃ f', f = j + (f' + 1) := ⟨f - (j + 1), by omega⟩
    rw [findIx_skip j (k : Int) fun i hi => by simpa using h3 i hi]
    unfold findIx
    rw [if_pos (by simpa using h1)]
    simp
theorem spots_filter (p : Nat → Bool) (n : Int) (N : Nat) : (((spotsOf p N).map (· + 1)).filter (fun k => decide (n ≤ k))) = ((List.range N).filter (fun j => p j && decide (n ≤ (j : Int) + 1))).map (fun j : Nat => (j : Int) + 1) := by
  unfold spotsOf
  rw [List.map_map, List.filter_map, List.filter_filter]
  congr 1
  apply List.filter_congr
  intro j _
  simp [Bool.and_comm]
  done
theorem headD_filter (p : Nat → Bool) (g : Nat → Int) (N : Nat) : (((List.range N).filter p).map g).headD 0 = (((List.range N).find? p).map g).getD 0 := by
  rw [List.headD_eq_head?_getD, List.head?_map, List.head?_filter]
theorem law_found (x y : Str) (n : Int) (hn : 1 ≤ n) : foundAt x y n = (((spotsOf (fun j => hitAt x y (j : Int)) x.length).map (· + 1)).filter (fun k => decide (n ≤ k))).headD 0 := by
  rw [spots_filter, headD_filter]
  unfold foundAt
  obtain ⟨k, rfl⟩ : ∃ k : Nat, n = (k : Int) + 1 := ⟨(n - 1).toNat, by omega⟩
  rw [show ((k : Int) + 1 - 1) = (k : Int) by lia]
  split
  · rename_i h
    have e : (List.range x.length).find? (fun j : Nat => hitAt x y (j : Int) && decide ((k : Int) + 1 ≤ (j : Int) + 1)) = none := by
      rw [List.find?_eq_none]
      intro j hj
      have := List.mem_range.mp hj
      simp
      intro _
      omega
    rw [e]; rfl
  · rename_i h
    rw [findIx_of]
    generalize hf : ((x.length : Int) - y.length + 1 - (k : Int)).toNat = f
    cases e : (List.range f).find? fun j => hitAt x y ((k + j : Nat) : Int) with
    | none =>
      rw [List.find?_eq_none] at e
      have e' : (List.range x.length).find? (fun j : Nat => hitAt x y (j : Int) && decide ((k : Int) + 1 ≤ (j : Int) + 1)) = none := by
        rw [List.find?_eq_none]
        intro j hj hc
        have hjl := List.mem_range.mp hj
        simp only [Bool.and_eq_true, decide_eq_true_eq] at hc
        have hl := hit_len hc.1
        refine e (j - k) (List.mem_range.mpr ?_) ?_
        · omega
        · rw [show k + (j - k) = j by omega]; exact hc.1
      rw [e']
      rfl
    | some j =>
      rw [List.find?_range_eq_some] at e
      first | (refine and3 e ?_; clear e; intro h1 h2 h3) | obtain ⟨h1, h2, h3⟩ := e
      have hj : j < f := List.mem_range.mp h2
      have hlt : k + j < x.length := by
        rcases Nat.eq_zero_or_pos y.length with hy | hy
        · rcases Nat.eq_zero_or_pos j with rfl | hj0
          · omega
          · have := h3 0 hj0
            rw [hit_nil hy] at this
            cases this
        · omega
      have e' : (List.range x.length).find? (fun j : Nat => hitAt x y (j : Int) && decide ((k : Int) + 1 ≤ (j : Int) + 1)) = some (k + j) := by
        rw [List.find?_range_eq_some]
        refine ⟨?_, List.mem_range.mpr hlt, fun i hi => ?_⟩
        · rw [h1, Bool.true_and, decide_eq_true_eq]; omega
        · by_cases hk : k ≤ i
          · have := h3 (i - k) (by omega)
            rw [show k + (i - k) = i by omega] at this
            simp only [Bool.not_eq_true'] at this
            rw [this]; rfl
          · rw [decide_eq_false (show ¬ ((k : Int) + 1 ≤ (i : Int) + 1) by omega), Bool.and_false]; rfl
      rw [e']
      rfl
theorem law_found1 (x y : Str) : foundAt x y 1 = ((spotsOf (fun j => hitAt x y (j : Int)) x.length).map (· + 1)).headD 0 := by
  rw [law_found x y 1 (by omega), List.filter_eq_self.mpr]
  intro k hk
  obtain ⟨j, hj, rfl⟩ := List.mem_map.mp hk
  unfold spotsOf at hj
  obtain ⟨i, _, rfl⟩ := List.mem_map.mp hj
  simp
  omega
end Mine
end
section
open PySem.Spec
namespace Mine
open PyProof.Rows.LCg (NsObj ns_obj lst lst_snoc Off3 Off1 CompEnd fr_but news_but FinE SrcAt)
section
variable {prog : Program} {w : World} {A : Around} {E : Value → Shared → Prop} {s : Shared} {Q : Value → Shared → Prop} {h₀ : Heap} {L : Addr} {news : List (Addr × Obj)}
theorem ne_ints {a b : Addr} {k j : Nat} {vs : List Value} {ns : List Int} {z : Bool} (N : News h₀ L s.heap news) (ha : (a, W.listOf vs.toArray k) ∈ news) (hi : IntsAre vs ns) (hb : (b, W.listOf #[] j) ∈ news) (hu : A.units + 64 < cLine)
    (hz : z = decide (0 < ns.length)) (h : Q (.bool z) s) : wpAny (model prog w) A (compareOp .NotEq (.ref a) (.ref b)) Q E s := by
  subst hz
  have la : s.heap.IsList a vs.toArray := ⟨_, (N _ ha).1, rfl, _, rfl⟩
  have lb : s.heap.IsList b ([] : List Value).toArray := ⟨_, (N _ hb).1, rfl, _, rfl⟩
  refine ne_dataH_same (reads_of_ints la hi) (reads_of_ints lb .nil) (shaped_ints ns) (shaped_ints []) hu ?_ ?_
  · simp only [SeqAt.noMix]; exact noMix_ints ns []
  · have e : PySem.Spec.same (.list (ns.map PyData.int)) (.list (([] : List Int).map PyData.int)) = decide (ns = []) := by
      simp only [PySem.Spec.same]
      exact same_ints ns []
    rw [e]
    cases ns with
    | nil => exact h
    | cons a l => simpa using h
theorem ne_ints_yes {a b : Addr} {k j : Nat} {vs : List Value} {ns : List Int} (N : News h₀ L s.heap news) (ha : (a, W.listOf vs.toArray k) ∈ news) (hi : IntsAre vs ns) (hb : (b, W.listOf #[] j) ∈ news) (hu : A.units + 64 < cLine)
    (e : 0 < ns.length) (h : Q (.bool true) s) : wpAny (model prog w) A (compareOp .NotEq (.ref a) (.ref b)) Q E s := ne_ints N ha hi hb hu (by simpa using e) h
theorem ne_ints_no {a b : Addr} {k j : Nat} {vs : List Value} {ns : List Int} (N : News h₀ L s.heap news) (ha : (a, W.listOf vs.toArray k) ∈ news) (hi : IntsAre vs ns) (hb : (b, W.listOf #[] j) ∈ news) (hu : A.units + 64 < cLine)
    (e : ns.length = 0) (h : Q (.bool false) s) : wpAny (model prog w) A (compareOp .NotEq (.ref a) (.ref b)) Q E s := ne_ints N ha hi hb hu (by simpa using e) h
end
noncomputable def JoinV (h₀ : Heap) (L : Addr) (m : Str → Option Value) (news : List (Addr × Obj)) (R : Tok → Value) (s : Shared) (v : Value) (s' : Shared) : Prop :=
  ∃ t h' tk, v = R t ∧ s' = { s with heap := h', toks := tk } ∧ Fr h₀ L h' m ∧ News h₀ L h' news
theorem JoinV.int {h₀ h' : Heap} {L : Addr} {m : Str → Option Value} {news all : List (Addr × Obj)} {x y : Int} {s : Shared} {t : Tok} {tk : Nat} (F : Fr h₀ L h' m) (N : News h₀ L h' all) (e : y = x) (sub : ∀ p ∈ news, p ∈ all) : JoinV h₀ L m news (fun t => .int x t) s (.int y t) { s with heap := h', toks := tk } := by
  subst e
  exact ⟨t, h', tk, rfl, rfl, F, kst_newsOf N sub⟩
theorem join_val {prog : Program} {w : World} {A : Around} {E : Value → Shared → Prop} {s : Shared} {Q : Value → Shared → Prop} {T : Sem Value} {h₀ : Heap} {L : Addr} {m : Str → Option Value} {news : List (Addr × Obj)} (R : Tok → Value) (_F : Fr h₀ L s.heap m) (_N : News h₀ L s.heap news)
    (h : wpAny (model prog w) A T (JoinV h₀ L m news R s) E s) (k : ∀ t h' tk, Fr h₀ L h' m → News h₀ L h' news → Q (R t) { s with heap := h', toks := tk }) : wpAny (model prog w) A T Q E s :=
  wpAny_mono h (fun v s' h' => by obtain ⟨t, h', tk, rfl, rfl, F', N'⟩ := h'; exact k t h' tk F' N') fun _ _ e => e
theorem ints_get : ∀ {vs : List Value} {ns : List Int}, IntsAre vs ns → ∀ (i : Nat) (v : Value), vs[i]? = some v → ∃ t, v = .int (ns.getD i 0) t
  | _, _, .nil, i, v, h => by simp at h
  | _, _, .cons n t r, 0, v, h => ⟨t, by simpa using h.symm⟩
  | _, _, .cons n t r, i + 1, v, h => by
    obtain ⟨u, e⟩ := ints_get r i v (by simpa using h)
    exact ⟨u, by simpa using e⟩
theorem flt_put {ns : List Int} {p : Int → Bool} {i : Nat} {ys : List Value} {v : Int} {t : Tok} (h : IntsAre ys ((ns.take i).filter p)) (hi : i < ns.length) (hv : v = ns.getD i 0) (hp : p v = true) : IntsAre (ys ++ [.int v t]) ((ns.take (i + 1)).filter p) := by
  have e : ns.take (i + 1) = ns.take i ++ [v] := by
    rw [List.take_succ, List.getElem?_eq_getElem hi, hv]
    simp [List.getD_eq_getElem?_getD, List.getElem?_eq_getElem hi]
  rw [e, List.filter_append, List.filter_cons_of_pos hp]
  exact ints_snoc h
theorem flt_skip {ns : List Int} {p : Int → Bool} {i : Nat} {ys : List Value} (h : IntsAre ys ((ns.take i).filter p)) (hi : i < ns.length) (hp : p (ns.getD i 0) = false) : IntsAre ys ((ns.take (i + 1)).filter p) := by
  have e : ns.take (i + 1) = ns.take i ++ [ns.getD i 0] := by
    rw [List.take_succ, List.getElem?_eq_getElem hi]
    simp [List.getD_eq_getElem?_getD, List.getElem?_eq_getElem hi]
  rw [e, List.filter_append, List.filter_cons_of_neg (by rw [hp]; decide)]
  simpa using h
theorem flt_len (ns : List Int) (p : Int → Bool) (i : Nat) : ((ns.take i).filter p).length ≤ i :=
  Nat.le_trans (List.length_filter_le _ _) (by rw [List.length_take]; omega)
section
variable {prog : Program} {w : World} {A : Around} {s₁ : Shared} {h₀ : Heap} {L : Addr} {m : Str → Option Value} {env : Env} {elt : Expr} {x : Str} {ifs : List Expr} {scope : Scope} {cl : List (Str × Addr)} {Q : Value → Shared → Prop} {news : List (Addr × Obj)}
theorem CSrc.listF {ax : Addr} {vs : List Value} {ns : List Int} {cc : Nat} (Inv : Nat → List Value → Prop) (hh : A.handled = none) (F : Fr h₀ L s₁.heap m) (N : News h₀ L s₁.heap news) (hm : (ax, W.listOf vs.toArray cc) ∈ news) (hi : IntsAre vs ns) (hsz : ns.length ≤ 10000)
    (hlen : ∀ i ys, Inv i ys → ys.length ≤ i) (h0 : Inv 0 [])
    (turn : ∀ g, TurnF prog w A h₀ L m env elt x ifs scope cl { s₁ with heap := g } news (fun i v => ∃ t, v = .int (ns.getD i 0) t) Inv ns.length) (fin : ∀ g ys, Inv ns.length ys → FinE h₀ L m { s₁ with heap := g } Q ys news) :
    CSrc prog w A h₀ L m env elt x ifs scope cl Q (.ref ax) s₁ := by
  have hl : vs.toArray.size = ns.length := by rw [List.size_toArray, ints_len hi]
  have hS : SrcAt h₀ ax vs.toArray news := .inr ⟨_, hm, rfl, _, rfl⟩
  refine CSrc.items (its := vs.toArray) (fun i ys nw => nw = news ∧ Inv i ys) hh F N (by rw [sizeLine_eq, hl]; lia) hS (fun i ys nw h => hlen i ys h.2) ⟨rfl, h0⟩ (fun g => ?_) ?_
  · rw [hl]
    refine turnF hS (fun i ys v I oI C oC D m₂ h tk E' hi' hinv hP => turn g i ys v I oI C oC D m₂ h tk E' hi' hinv (ints_get hi i v ?_))
    simpa using hP
  · rintro g ys nw _ ⟨rfl, h⟩
    rw [hl] at h
    exact fin g ys h
end
end Mine
end
section
open PySem.Spec
namespace Mine
open PyProof.Rows.LCg (NsObj ns_obj lst lst_snoc Off3 Off1 CompEnd fr_but news_but FinA SrcAt range_walks range_st list_st)
inductive CSrcA (prog : Program) (w : World) (A : Around) (h₀ : Heap) (L : Addr) (m : Str → Option Value) (env : Env) (elt : Expr) (x : Str) (ifs : List Expr) (scope : Scope) (cl : List (Str × Addr)) (y : Str) (Q : Flow → Shared → Prop) (xv : Value) (s₁ : Shared) : Prop where
  | mk (n : Nat) (S : List (Addr × Obj) → Prop) (P : Nat → Value → Prop) (Inv : Nat → List Value → List (Addr × Obj) → Prop) (news : List (Addr × Obj)) (h1 : A.handled = none) (h2 : Fr h₀ L s₁.heap m) (h3 : News h₀ L s₁.heap news) (h4 : n ≤ sizeLine) (h5 : S news) (h6 : (∀ i ys nw, Inv i ys nw → ys.length ≤ i)) (h7 : Inv 0 [] news) (h8 : (∀ g, Turn prog w A h₀ L m env elt x ifs scope cl { s₁ with heap := g } S P Inv n)) (h9 : (∀ g ys nw, S nw → Inv n ys nw → FinA h₀ L m { s₁ with heap := g } y Q ys nw)) (h10 : ((∃ r a b t u v, xv = .ref r ∧ IsRange s₁.heap r a b 1 t u v ∧ Builtin.Range.small a b 1 = true ∧ Builtin.Range.rangeSize a b 1 = ((n : Nat) : Int) ∧ (∀ nw, S nw) ∧ P = (fun i v => ∃ t, v = .int (a + (i : Int)) t)) ∨ (∃ y t, xv = .str y t ∧ n = y.cps.size ∧ (∀ nw, S nw) ∧ P = SignAt y) ∨ (∃ ax its, xv = .ref ax ∧ n = its.size ∧ (∀ nw, S nw → SrcAt h₀ ax its nw) ∧ P = (fun i v => its[i]? = some v))))
section
variable {prog : Program} {w : World} {A : Around} {E : Value → Shared → Prop} {s : Shared} {h₀ : Heap} {L : Addr} {m : Str → Option Value} {env : Env}
theorem comp_invA {elt iter : Expr} {x yy : Str} {px py : Pos} {ifs : List Expr} {scope : Scope} {cl : List (Str × Addr)} {pos spos : Pos} {Q : Flow → Shared → Prop} (_F₀ : Fr h₀ L s.heap m) (hLe : env.locals = L)
    (hsw : swapsWith (.ListComp elt [⟨.Name x px, iter, ifs, 0⟩] scope pos) (some (.Name yy py)) spos.line env = pure true)
    (hclos : closureFor scope env = pure cl) (hcell : ∀ z ∈ scope.names, z.2 ≠ .cell) (hkind : scope.kind = .function)
    (hnames : ∀ z ∈ scope.names, z.2 = .local → scope.names.lookup z.1 = some .local) (hx : scope.names.lookup x = some .local)
    (hy : env.kindOf yy = some .local) (hp : (env.scope.kind == .class || (env.scope.kind == .module && env.locals != env.globals)) = false)
    (h : wpAny (model prog w) A (eval iter env) (CSrcA prog w A h₀ L m env elt x ifs scope cl yy Q) E s)
    (hs : ∀ x, foldedSetIterable iter env x = pure x := by intro _; rfl) :
    wpAny (model prog w) A (exec (.Assign [.Name yy py] (.ListComp elt [⟨.Name x px, iter, ifs, 0⟩] scope pos) spos) env) Q E s := by
  subst hLe
  rw [exec_Assign_Name_used _ _ _ _ hsw]
  refine wpAny_bind (wpAny_standAt (wpAny_bind ?_))
  show wpAny _ A (do let _ ← comprehension (.ListComp elt [⟨.Name x px, iter, ifs, 0⟩] scope pos) scope env _ (newList []) false (eval iter env) (some (assign (.Name yy py) env))) _ _ s
  refine wpAny_bind (wpAny_mono (wpAny_comprehension_free (use := some (assign (.Name yy py) env)) (Q := fun _ s' => Q .next s') rfl hs hclos hkind hnames
    (wpAny_mono h (fun xv s₁ h₁ => ?_) fun _ _ e => e)) (fun _ s' hq => wpAny_pure (wpAny_pure hq)) fun _ _ e => e)
  refine hideG ?_
  intro GG
  first | (refine and15 h₁ ?_; clear h₁; intro n S P Inv news hh F N hsz hS hlen h0 turn fin src) | obtain ⟨n, S, P, Inv, news, hh, F, N, hsz, hS, hlen, h0, turn, fin, src⟩ := h₁
  k_unfold
  have last : ∀ g : Heap, ∀ (D C : Addr) (h : Heap) (tk : Nat) (m' : Str → Option Value) (ys : List Value) (news' : List (Addr × Obj)), Fr h₀ env.locals h m → News h₀ env.locals h ((D, lst ys) :: news') → Off1 D news' → h.Ns C m' → h₀.get? C = none → h₀.get? D = none → C ≠ env.locals → D ≠ env.locals → C ≠ D → (∀ p ∈ news', p.1 ≠ C) → S news' → Inv n ys news' →
      compPost (model prog w) A E (some (assign (.Name yy py) env)) (fun _ s' => Q .next s') (.ref D) C (.ok .next) { s₁ with heap := h, toks := tk } := by
    intro g D C h tk m' ys news' F' N' o1 hn hC₀ hD₀ hCL hDL hCD offC hS' hi
    show wpAny _ A (assign (.Name yy py) env (.ref D)) _ _ _
    refine wpAny_assign_Name (wpAny_storeName_local hy F'.ns (fun h₂ hn₂ hs₂ => ?_) hp)
    have hL₀ : h₀.get? env.locals = none := Heap.get?_none_of_le F'.above
    have F₂ : Fr h₀ env.locals h₂ (fun z => if z = yy then some (.ref D) else m z) := ⟨hn₂, fun b o e => hs₂.extBut b o (fun q => by rw [q, hL₀] at e; cases e) (F'.keep b o e), F'.above⟩
    refine ⟨m', hn.sameBut hs₂ hCL, fun h'' hs'' => fin g ys news' hS' hi D h'' _ (F₂.change hs'' hCL hC₀) (fun p hp => ?_) o1⟩
    have z : h₂.get? p.1 = some p.2 := hs₂.extBut _ _ (N' p hp).2.1 (N' p hp).1
    refine ⟨hs''.extBut _ _ ?_ z, (N' p hp).2⟩
    rcases List.mem_cons.mp hp with rfl | hp
    · exact Ne.symm hCD
    · exact offC p hp
  rcases src with ⟨r, a, b, t, u, v, rfl, hr, hsm, hn, hS2, rfl⟩ | ⟨y, t, rfl, rfl, hS2, rfl⟩ | ⟨ax, its, rfl, rfl, hS2, rfl⟩
  · refine wpAny_pyIter_range hr hsm ?_
    refine block_inv (S := S) (range_walks hh a n) hsz (fun i h st => ⟨_, st⟩) (fun i h h' o nw st e e' k N _ => range_st i h h' o nw st e e' k N trivial) hcell hkind hx (by show IsRangeIter _ _ _ _ _; rw [hn]; simpa using Heap.get?_push_size _ rfl) (fun b hb => ?_)
      (F.keeps fun _ _ e => Heap.get?_push_of_some _ e) (N.grown fun _ _ e => Heap.get?_push_of_some _ e) (Nat.ne_of_lt F.ns.lt) (next_is_new F) (fun p hp => Nat.ne_of_lt (Heap.lt_size (N p hp).1)) hS hlen h0 (turn _) (last s₁.heap)
    rw [List.mem_singleton.mp hb]
    show s₁.heap.objs.size < (s₁.heap.push _).objs.size
    rw [Heap.size_push]; exact Nat.lt_succ_self _
  · have key : ∀ T, Walks prog w A s₁.heap.objs.size [s₁.heap.objs.size] [s₁.heap.objs.size] y.cps.size (SignAt y) (fun i h => h.IsStrIter s₁.heap.objs.size T y t i) → (s₁.heap.push { cls := .type T, data := .fields #[.str y t, .int 0 0] }).IsStrIter s₁.heap.objs.size T y t 0 →
        wpAny (model prog w) A (newList []) (fun acc s₃ => wpAny (model prog w) A (newFunctionEnv scope env.globals cl [] env.qual none .none (some env)) (fun cenv s₄ =>
          codeAny (model prog w) A (.compStart (.ListComp elt [⟨.Name x px, iter, ifs, 0⟩] scope pos) 0 (.ref s₁.heap.objs.size) acc { cenv with scope := relabel scope env }) (compPost (model prog w) A E (some (assign (.Name yy py) env)) (fun _ s' => Q .next s') acc cenv.locals) s₄) E s₃) E { s₁ with heap := s₁.heap.push { cls := .type T, data := .fields #[.str y t, .int 0 0] } } := fun T W st => by
      refine block_inv (RR := fun acc C => compPost (model prog w) A E (some (assign (.Name yy py) env)) (fun _ s' => Q .next s') acc C) (S := S) W hsz (fun i h st => by obtain ⟨o, e, _⟩ := st; exact ⟨o, e⟩) (fun i h h' o nw st e e' _ _ _ => by
          first | (refine and3 st ?_; clear st; intro o' q r) | obtain ⟨o', q, r⟩ := st
          rw [e] at q; cases q
          exact ⟨o, e', r⟩) hcell hkind hx st (fun b hb => ?_)
        (F.keeps fun _ _ e => Heap.get?_push_of_some _ e) (N.grown fun _ _ e => Heap.get?_push_of_some _ e) (Nat.ne_of_lt F.ns.lt) (next_is_new F) (fun p hp => Nat.ne_of_lt (Heap.lt_size (N p hp).1)) hS hlen h0 (turn _) (last s₁.heap)
      rw [List.mem_singleton.mp hb]
      show s₁.heap.objs.size < (s₁.heap.push _).objs.size
      rw [Heap.size_push]; exact Nat.lt_succ_self _
    cases ha : y.cps.all (· < 128)
    · exact wpAny_pyIter_wide ha (key "str_iterator" (Walks.strWide hh _ y t) ⟨_, Heap.get?_push_size _ rfl, rfl, rfl⟩)
    · exact wpAny_pyIter_ascii ha (key "str_ascii_iterator" (Walks.strAscii hh _ y t) ⟨_, Heap.get?_push_size _ rfl, rfl, rfl⟩)
  · have hl := (hS2 _ hS).list F.keep N
    have hlt : ax < s₁.heap.objs.size := by obtain ⟨_, e, _⟩ := hl; exact Heap.lt_size e
    refine wpAny_pyIter_list hl ?_
    have up : ∀ b o, s₁.heap.get? b = some o → (s₁.heap.push { cls := .type "list_iterator", data := .fields #[.ref ax, .int 0 0] }).get? b = some o := fun b o e => Heap.get?_push_of_some _ e
    refine block_inv (S := S) (Walks.list hh s₁.heap.objs.size ax (Nat.ne_of_lt hlt) its) hsz (fun i h st => by obtain ⟨o, e, _⟩ := st.1; exact ⟨o, e⟩) (fun i h h' o nw st e e' k N z => list_st i h h' o nw st e e' k N (hS2 _ z)) hcell hkind hx ⟨⟨_, Heap.get?_push_size _ rfl, rfl, rfl⟩, hl.push _⟩ (fun b hb => ?_)
      (F.keeps up) (N.grown up) (Nat.ne_of_lt F.ns.lt) (next_is_new F) (fun p hp => Nat.ne_of_lt (Heap.lt_size (N p hp).1)) hS hlen h0 (turn _) (last s₁.heap)
    show b < (s₁.heap.push _).objs.size
    rw [Heap.size_push]
    rcases List.mem_cons.mp hb with rfl | hb
    · exact Nat.lt_succ_self _
    · rw [List.mem_singleton.mp hb]; exact Nat.lt_succ_of_lt hlt
end
section
variable {prog : Program} {w : World} {A : Around} {s₁ : Shared} {h₀ : Heap} {L : Addr} {m : Str → Option Value} {env : Env} {elt : Expr} {x : Str} {ifs : List Expr} {scope : Scope} {cl : List (Str × Addr)} {yy : Str} {Q : Flow → Shared → Prop} {news : List (Addr × Obj)}
theorem CSrcA.range {r : Addr} {a b : Int} {t u v : Tok} {n : Nat} (Inv : Nat → List Value → List (Addr × Obj) → Prop) (hh : A.handled = none) (F : Fr h₀ L s₁.heap m) (N : News h₀ L s₁.heap news) (hr : IsRange s₁.heap r a b 1 t u v) (hsm : Builtin.Range.small a b 1 = true) (hn : Builtin.Range.rangeSize a b 1 = ((n : Nat) : Int)) (hsz : n ≤ sizeLine)
    (hlen : ∀ i ys nw, Inv i ys nw → ys.length ≤ i) (h0 : Inv 0 [] news)
    (turn : ∀ g, Turn prog w A h₀ L m env elt x ifs scope cl { s₁ with heap := g } (fun _ => True) (fun i v => ∃ t, v = .int (a + (i : Int)) t) Inv n) (fin : ∀ g ys nw, Inv n ys nw → FinA h₀ L m { s₁ with heap := g } yy Q ys nw) :
    CSrcA prog w A h₀ L m env elt x ifs scope cl yy Q (.ref r) s₁ :=
  ⟨n, fun _ => True, _, Inv, news, hh, F, N, hsz, trivial, hlen, h0, turn, fun g ys nw _ => fin g ys nw, .inl ⟨r, a, b, t, u, v, rfl, hr, hsm, hn, fun _ => trivial, rfl⟩⟩
theorem CSrcA.text {y : Str} {t : Tok} (Inv : Nat → List Value → List (Addr × Obj) → Prop) (hh : A.handled = none) (F : Fr h₀ L s₁.heap m) (N : News h₀ L s₁.heap news) (hsz : y.cps.size ≤ sizeLine)
    (hlen : ∀ i ys nw, Inv i ys nw → ys.length ≤ i) (h0 : Inv 0 [] news)
    (turn : ∀ g, Turn prog w A h₀ L m env elt x ifs scope cl { s₁ with heap := g } (fun _ => True) (SignAt y) Inv y.cps.size) (fin : ∀ g ys nw, Inv y.cps.size ys nw → FinA h₀ L m { s₁ with heap := g } yy Q ys nw) :
    CSrcA prog w A h₀ L m env elt x ifs scope cl yy Q (.str y t) s₁ :=
  ⟨_, fun _ => True, _, Inv, news, hh, F, N, hsz, trivial, hlen, h0, turn, fun g ys nw _ => fin g ys nw, .inr (.inl ⟨y, t, rfl, rfl, fun _ => trivial, rfl⟩)⟩
theorem CSrcA.items {ax : Addr} {its : Array Value} (Inv : Nat → List Value → List (Addr × Obj) → Prop) (hh : A.handled = none) (F : Fr h₀ L s₁.heap m) (N : News h₀ L s₁.heap news) (hsz : its.size ≤ sizeLine) (hS : SrcAt h₀ ax its news)
    (hlen : ∀ i ys nw, Inv i ys nw → ys.length ≤ i) (h0 : Inv 0 [] news)
    (turn : ∀ g, Turn prog w A h₀ L m env elt x ifs scope cl { s₁ with heap := g } (SrcAt h₀ ax its) (fun i v => its[i]? = some v) Inv its.size) (fin : ∀ g ys nw, SrcAt h₀ ax its nw → Inv its.size ys nw → FinA h₀ L m { s₁ with heap := g } yy Q ys nw) :
    CSrcA prog w A h₀ L m env elt x ifs scope cl yy Q (.ref ax) s₁ :=
  ⟨_, SrcAt h₀ ax its, _, Inv, news, hh, F, N, hsz, hS, hlen, h0, turn, fin, .inr (.inr ⟨ax, its, rfl, rfl, fun _ z => z, rfl⟩)⟩
theorem CSrcA.rangeF {r : Addr} {b : Int} {t u v : Tok} (n : Nat) (Inv : Nat → List Value → Prop) (hh : A.handled = none) (F : Fr h₀ L s₁.heap m) (N : News h₀ L s₁.heap news) (hr : (r, rangeObj 0 b t u v) ∈ news) (hb : b = (n : Int)) (hsz : n ≤ 10000)
    (hlen : ∀ i ys, Inv i ys → ys.length ≤ i) (h0 : Inv 0 [])
    (turn : ∀ g, TurnF prog w A h₀ L m env elt x ifs scope cl { s₁ with heap := g } news (fun i v => ∃ t, v = .int (0 + (i : Int)) t) Inv n) (fin : ∀ g ys, Inv n ys → FinA h₀ L m { s₁ with heap := g } yy Q ys news) :
    CSrcA prog w A h₀ L m env elt x ifs scope cl yy Q (.ref r) s₁ := by
  subst hb
  refine CSrcA.range (n := n) (fun i ys nw => nw = news ∧ Inv i ys) hh F N (N _ hr).1 (small_one (by omega) (by omega) (by omega) (by omega)) (by rw [rangeSize_nat]; congr 2) (by rw [sizeLine_eq]; omega) (fun i ys nw h => hlen i ys h.2) ⟨rfl, h0⟩ (fun g => turnF trivial (turn g)) ?_
  rintro g ys nw ⟨rfl, h⟩
  exact fin g ys h
theorem CSrcA.textF {y : Str} {t : Tok} (Inv : Nat → List Value → Prop) (hh : A.handled = none) (F : Fr h₀ L s₁.heap m) (N : News h₀ L s₁.heap news) (hsz : y.length ≤ 10000)
    (hlen : ∀ i ys, Inv i ys → ys.length ≤ i) (h0 : Inv 0 [])
    (turn : ∀ g, TurnF prog w A h₀ L m env elt x ifs scope cl { s₁ with heap := g } news (SignAt y) Inv y.cps.size) (fin : ∀ g ys, Inv y.cps.size ys → FinA h₀ L m { s₁ with heap := g } yy Q ys news) :
    CSrcA prog w A h₀ L m env elt x ifs scope cl yy Q (.str y t) s₁ := by
  refine CSrcA.text (fun i ys nw => nw = news ∧ Inv i ys) hh F N (by rw [sizeLine_eq]; have : y.cps.size = y.length := rfl; omega) (fun i ys nw h => hlen i ys h.2) ⟨rfl, h0⟩ (fun g => turnF trivial (turn g)) ?_
  rintro g ys nw ⟨rfl, h⟩
  exact fin g ys h
theorem CSrcA.listF {ax : Addr} {vs : List Value} {ns : List Int} {cc : Nat} (Inv : Nat → List Value → Prop) (hh : A.handled = none) (F : Fr h₀ L s₁.heap m) (N : News h₀ L s₁.heap news) (hm : (ax, W.listOf vs.toArray cc) ∈ news) (hi : IntsAre vs ns) (hsz : ns.length ≤ 10000)
    (hlen : ∀ i ys, Inv i ys → ys.length ≤ i) (h0 : Inv 0 [])
    (turn : ∀ g, TurnF prog w A h₀ L m env elt x ifs scope cl { s₁ with heap := g } news (fun i v => ∃ t, v = .int (ns.getD i 0) t) Inv ns.length) (fin : ∀ g ys, Inv ns.length ys → FinA h₀ L m { s₁ with heap := g } yy Q ys news) :
    CSrcA prog w A h₀ L m env elt x ifs scope cl yy Q (.ref ax) s₁ := by
  have hl : vs.toArray.size = ns.length := by rw [List.size_toArray, ints_len hi]
  have hS : SrcAt h₀ ax vs.toArray news := .inr ⟨_, hm, rfl, _, rfl⟩
  refine CSrcA.items (its := vs.toArray) (fun i ys nw => nw = news ∧ Inv i ys) hh F N (by rw [sizeLine_eq, hl]; omega) hS (fun i ys nw h => hlen i ys h.2) ⟨rfl, h0⟩ (fun g => ?_) ?_
  · rw [hl]
    refine turnF hS (fun i ys v I oI C oC D m₂ h tk E' hi' hinv hP => turn g i ys v I oI C oC D m₂ h tk E' hi' hinv (ints_get hi i v ?_))
    simpa using hP
  · rintro g ys nw _ ⟨rfl, h⟩
    rw [hl] at h
    exact fin g ys h
end
end Mine
end
section
open PySem.Spec
namespace Mine
theorem hit_of {x y : Str} {i : Nat} {b : Bool} (h : (Txt.slice x (some (0 + (i : Int))) (some (0 + (i : Int) + (y.length : Int))) == y) = b) : hitAt x y (i : Int) = b := by
  have e : (0 : Int) + (i : Int) = (i : Int) := by omega
  rw [e] at h; exact h
theorem hit_not {x y : Str} {i : Nat} (h : ¬ (Txt.slice x (some (0 + (i : Int))) (some (0 + (i : Int) + (y.length : Int))) == y) = true) : hitAt x y (i : Int) = false := hit_of (by simpa using h)
end Mine
end
section
namespace Mine
theorem OK6.gdK6 : True := trivial
open OK6
theorem wd_K6_1 : True := by (k_with "eval Name" => (k_here; (with_reducible show wpAny _ _ (eval (PySem.Expr.Name _ _) (compEnvC _ _ _ _)) _ _ _); k_dflt (refine LCgL.ld_own (by k_asm) (by k_mem) (by with_reducible assumption) (by with_reducible assumption) ?_))); (k_with "eval Name" => (k_here; (fail_if_success (with_reducible show wpAny _ _ (eval (PySem.Expr.Name _ _) (compEnvC _ _ _ _)) _ _ _)); name_kind "local"; (with_reducible refine' gGq GI.l ?_ ?_ ?_ ?_; rotate_right 4); k_dflt ((rotate_left 1; (kernel_rfl); rotate_right 1); (k_asm); (focus ((((repeat (first | with_reducible exact nm_hit | ((with_reducible refine Eq.trans (nm_miss ?_) ?_; kernel_rfl)))); (try rfl))); done)); k_whole))); trivial
theorem wd_K6_2 : True := by (k_with "call type:range" => ((fail_if_success (fail_if_success (have : True := gdK6))); ((k_here; k_dflt (first | ((refine' range1N ?_ ?_ ?_; rotate_right 3; (rotate_left 1; (k_asm); rotate_right 1); (k_asm))) | ((refine' range2N ?_ ?_ ?_; rotate_right 3; (rotate_left 1; (k_asm); rotate_right 1); (k_asm)))); intro rR hR xR uR vR tkR fR nR)))); (k_with "exec Assign cons ListComp" => ((fail_if_success (fail_if_success (have : True := gdK6))); ((k_here; k_dflt (refine' comp_invA ?_ ?_ ?_ ?_ ?_ ?_ ?_ ?_ ?_ ?_ ?_ ?_; rotate_right 12; (k_asm); (rfl); (with_unfolding_all rfl); (with_unfolding_all rfl); (decide); (rfl); (decide); (rfl); (rfl); (rfl); (rotate_left 1; (focus (((intro _; rfl)); done)); rotate_right 1)))))); (k_with "eval ListComp" => ((fail_if_success (fail_if_success (have : True := gdK6))); ((k_here; k_dflt (refine' comp_inv ?_ ?_ ?_ ?_ ?_ ?_ ?_ ?_; rotate_right 8; (k_asm); (with_unfolding_all rfl); (decide); (rfl); (decide); (rfl); (rotate_left 1; (focus (((intro _; rfl)); done)); rotate_right 1)))))); (k_with "eval IfExp" => ((fail_if_success (fail_if_success (have : True := gdK6))); ((k_here; (fail_if_success (with_reducible show wpAny _ _ _ (JoinS _ _ _ _ _ _) _ _)); (fail_if_success (with_reducible show wpAny _ _ _ (JoinV _ _ _ _ _ _) _ _)); k_dflt (refine Stop.go ?_))))); (k_with "CompEnd" => ((fail_if_success (fail_if_success (have : True := gdK6))); ((k_here; k_dflt (refine Stop.go ?_))))); (k_with "compareOp NotEq ref ref" => ((fail_if_success (fail_if_success (have : True := gdK6))); ((k_here; k_dflt (first | ((refine' ne_ints_yes ?_ ?_ ?_ ?_ ?_ ?_ ?_; rotate_right 7; (k_asm); (focus ((k_mem); done)); (rotate_left 1; (focus ((k_mem); done)); rotate_right 1); (with_reducible assumption); (rotate_left 1; (focus ((first | with_reducible assumption | omega); done)); rotate_right 1); (ktr_units))) | ((refine' ne_ints_no ?_ ?_ ?_ ?_ ?_ ?_ ?_; rotate_right 7; (k_asm); (focus ((k_mem); done)); (rotate_left 1; (focus ((k_mem); done)); rotate_right 1); (with_reducible assumption); (rotate_left 1; (focus ((first | with_reducible assumption | omega); done)); rotate_right 1); (ktr_units)))))))); (k_with "compareOp Eq str str" => ((fail_if_success (fail_if_success (have : True := gdK6))); ((k_here; k_dflt (refine' eqS_yes ?_ ?_; rotate_right 2; (focus ((first | with_reducible rfl | with_reducible assumption | omega); done))))))); (k_with "compareOp NotEq str str" => ((fail_if_success (fail_if_success (have : True := gdK6))); ((k_here; k_dflt (refine' neS_no ?_ ?_; rotate_right 2; (focus ((first | with_reducible rfl | with_reducible assumption | omega); done))))))); (k_with "compareOp Eq int int" => ((fail_if_success (fail_if_success (have : True := gdK6))); ((k_here; k_dflt (refine' eqI_yes ?_ ?_; rotate_right 2; (focus ((first | with_reducible rfl | with_reducible assumption | omega); done))))))); (k_with "compareOp NotEq int int" => ((fail_if_success (fail_if_success (have : True := gdK6))); ((k_here; k_dflt (refine' neI_no ?_ ?_; rotate_right 2; (focus ((first | with_reducible rfl | with_reducible assumption | omega); done))))))); trivial
theorem c_places {w : World} {mean : ExcName → Option Value} {mg mb : Str → Option Value} {pd cl : Addr} {o : Obj} {vs : List Value} {ns : List Int} {cc : Nat} {c : Int}  (hne : cl ≠ pd) (hI : IntsAre vs ns) (hns : ns.length ≤ 64) (hP : PoolIs w o cl c) (hc0 : 0 ≤ c) (hc1 : c ≤ 100)  :
   Cl w mean mg mb 410 150 [(pd, o), (cl, W.listOf vs.toArray cc)] [.ref pd] := by
  refine shed ?_ fun _ n h => ?_
  focus (
  dsimp only [Cl]
  intro dp un gd cn cs a ccd cl' A₀ base h₀ L m s Q E B F X N T hk XB TB hd hu hret
  refine wpAny_call ?_
  k_dflt (refine' code_defE0C B F X N T ?kA ?hf ?hke ?k6 ?k7 ?k8 ?k9 ?kB ?kD ?_ ?c2 ?c3 ?c4; (case kA => exact rfl); (case hf => exact rfl); (case hke => exact hk); (case k6 => k_is); (case k7 => k_is); (case k8 => ktr_room); (case k9 => exact BindsTo.of_eq rfl); (case kB => exact rfl); (case kD => decide +kernel); (case c2 => exact rfl); (case c3 => exact rfl); (case c4 => exact rfl); k_whole)
  intro g' L' h' tk' cells' FG' F' N' Y' B' X' T' D' l1
  (try k_lt l1)
  obtain ⟨oc1, oc2, oc3, hE, d1, d2, d3⟩ := CellsAre.three Y'
  subst hE
  (try simp only [List.cons_append, List.nil_append] at N')
  (try dsimp only)
  (try k_lift B')
  (try k_fold)
  k_steps
  k_extra "So"
  k_dflt (refine' c_signsX ?U ?hm ?hne ?hI ?hns ?hP ?c0 ?c1 ?k0 ?k1 _ _ _ _ _ _ _ _ _ _ _ _ _ _ _ _ _ ?kB ?kF ?kX ?kN ?kT ?kk trivial ?hd ?hu ?_; (case kN => k_asm); k_extra "cF"; (case U => k_updF); (case hP => assumption); (case hm => k_mem); (case hne => first | assumption | k_ne); (case hI => assumption); (case hns => assumption); (case c0 => omega); (case c1 => omega); (case k0 => omega); (case k1 => omega); k_extra "cH")
  intro x t_x o_x c_x h_x k_x c0_x c1_x x_l x_a P_x F_x N_x
  (try dsimp only at N_x)
  k_steps
  k_extra "So"
  k_dflt (refine' c_signsX ?U ?hm ?hne ?hI ?hns ?hP ?c0 ?c1 ?k0 ?k1 _ _ _ _ _ _ _ _ _ _ _ _ _ _ _ _ _ ?kB ?kF ?kX ?kN ?kT ?kk trivial ?hd ?hu ?_; (case kN => k_asm); k_extra "cF"; (case U => k_updF); (case hP => assumption); (case hm => k_mem); (case hne => first | assumption | k_ne); (case hI => assumption); (case hns => assumption); (case c0 => omega); (case c1 => omega); (case k0 => omega); (case k1 => omega); k_extra "cH")
  intro y t_y o_y c_y h_y k_y c0_y c1_y y_l y_a P_y F_y N_y
  (try dsimp only at N_y)
  k_steps
  k_extra "So"
  k_dflt (refine' c_draw ?U ?hm ?hne ?hI ?hns ?hP ?c0 ?c1 ?k0 ?k1 _ _ _ _ _ _ _ _ _ _ _ _ _ _ _ _ _ ?kB ?kF ?kX ?kN ?kT ?kk trivial ?hd ?hu ?_; (case kN => k_asm); k_extra "cF"; (case U => k_updF); (case hP => assumption); (case hm => k_mem); (case hne => first | assumption | k_ne); (case hI => assumption); (case hns => assumption); (case c0 => omega); (case c1 => omega); (case k0 => omega); (case k1 => omega); k_extra "cH")
  intro z t_z o_z h_z k_z z_0 z_1 P_z F_z N_z
  (try dsimp only at N_z)
  k_steps
  k_extra "So"
  k_dflt (refine' c_draw ?U ?hm ?hne ?hI ?hns ?hP ?c0 ?c1 ?k0 ?k1 _ _ _ _ _ _ _ _ _ _ _ _ _ _ _ _ _ ?kB ?kF ?kX ?kN ?kT ?kk trivial ?hd ?hu ?_; (case kN => k_asm); k_extra "cF"; (case U => k_updF); (case hP => assumption); (case hm => k_mem); (case hne => first | assumption | k_ne); (case hI => assumption); (case hns => assumption); (case c0 => omega); (case c1 => omega); (case k0 => omega); (case k1 => omega); k_extra "cH")
  intro k t_k o_k h_k k_k k_0 k_1 P_k F_k N_k
  (try dsimp only at N_k)
  k_steps
  · skip
    have hyl : ((Txt.slice x (some z) (some (z + 2)))).length ≤ 100 := by
      first
        | omega
        | (rw [slice_ab x _ _ (by omega) (by omega), St_len, List.length_drop, List.length_take, cd_len]; omega)
    (rename Fr _ L' _ _ => hF); (rename News _ L' _ _ => hN)
    refine' CSrcA.rangeF x.length (fun i ys => IntsAre ys ((spotsOf (fun j => hitAt x (Txt.slice x (some z) (some (z + 2))) (j : Int)) i).map (· + 1))) rfl hF hN ?a1p rfl (by omega) ?a4p .nil ?a6p ?a7p
    case a1p => k_mem
    case a4p => exact fun i ys h => by rw [ints_len h, List.length_map]; exact spots_len _ _
    case a6p =>
      intro g i ys v I oI C oC D m₂ hh tk E' hi' hs hv; apply ex1E hv; clear hv; intro tv hoC hmx F2 N2 hoff hdis
      clear hdis
      refine wpAny_tests_one ?_
      k_steps
      all_goals (k_extra "So"; (rename Fr _ L' _ _ => fE); (rename News _ L' _ _ => nE); refine LCg.CompEnd.intro fE nE _ (fun p hp => hp) hoff rfl ?_)
      all_goals first
        | exact spots_put1 hs (hit_of (by with_reducible assumption)) (by omega)
        | exact spots_skip1 hs (hit_of (by with_reducible assumption))
        | exact spots_skip1 hs (hit_not (by with_reducible assumption))
    rintro g vs hi D hh tk F2 N2 _
    (try k_sweep)
    obtain ⟨ns, hns⟩ : ∃ ns, ns = (spotsOf (fun j => hitAt x (Txt.slice x (some z) (some (z + 2))) (j : Int)) x.length).map (· + 1) := ⟨_, rfl⟩
    rw [← hns] at hi
    have hnl : ns.length ≤ 7 := by rw [hns, List.length_map]; exact Nat.le_trans (spots_len _ _) (by omega)
    have hq : foundAt x (Txt.slice x (some z) (some (z + 2))) 1 = ns.headD 0 := by rw [law_found1, ← hns]
    k_steps
    (rename Fr _ L' _ _ => hF); (rename News _ L' _ _ => hN)
    refine' CSrcA.listF (fun i ys => IntsAre ys ((ns.take i).filter (fun k => decide (z ≤ k)))) rfl hF hN ?b1p hi (by omega) ?b4p .nil ?b6p ?b7p
    case b1p => k_mem
    case b4p => exact fun i ys h => by rw [ints_len h]; exact flt_len _ _ _
    case b6p =>
      intro g i ys v I oI C oC D m₂ hh tk E' hi' hs hv; apply ex1E hv; clear hv; intro tv hoC hmx F2 N2 hoff hdis
      clear hdis
      refine wpAny_tests_one ?_
      k_steps
      all_goals (k_extra "So"; (rename Fr _ L' _ _ => fE); (rename News _ L' _ _ => nE); refine LCg.CompEnd.intro fE nE _ (fun p hp => hp) hoff rfl ?_)
      all_goals first
        | exact flt_put hs hi' rfl (by simp only [decide_eq_true_eq]; omega)
        | exact flt_skip hs hi' (by simp only [decide_eq_false_iff_not]; omega)
    rintro g2 us hi2 D2 hh2 tk2 F3 N3 _
    (try k_sweep)
    rw [List.take_length] at hi2
    obtain ⟨ms, hms⟩ : ∃ ms, ms = ns.filter (fun k => decide (z ≤ k)) := ⟨_, rfl⟩
    rw [← hms] at hi2
    k_steps
    k_extra "So"
    k_dflt (refine' (h_instr2 ?qm ?q0 ?q1) _ _ _ _ _ _ _ _ _ _ _ _ _ _ _ _ _ _ ?kB ?kF ?kX ?kN ?kT ?kk ?XB ?TB ?kD ?T0 trivial ?hd ?hu ?_; (case kN => k_asm); (case qm => k_mem); (case q0 => omega); (case q1 => omega); k_extra "cF"; k_extra "cX"; k_extra "cH")
    intro tH1 gH1 hH1 kH1 T1 F1 N1 B1 X1 P1 D1
    (try k_lift B1)
    (try dsimp only)
    k_steps
    k_extra "So"
    (rename Fr _ L' _ _ => jF); (rename News _ L' _ _ => jN)
    refine join_val (fun t => .int (ns.headD 0) t) jF jN ?_ ?_
    · skip
      rcases Nat.eq_zero_or_pos ns.length with h0 | h0
      · k_steps
        all_goals first
          | exact JoinV.int (by k_asm) (by k_asm) (by cases ns with | nil => rfl | cons _ _ => cases h0) (fun p hp => by first | exact hp | exact .tail _ hp)
          | (exfalso; omega)
      · k_steps
        all_goals first
          | exact JoinV.int (by k_asm) (by k_asm) (by cases ns <;> rfl) (fun p hp => by first | exact hp | exact .tail _ hp)
          | (exfalso; omega)
    intro jt jh jk jF' jN'
    (try dsimp only)
    k_steps
    (with_reducible show Stop _)
    rcases Int.lt_or_le z 1 with hz0 | hz0
    · skip
      have hz0 : z = 0 := by omega
      k_steps
      k_extra "So"
      (rename Fr _ L' _ _ => jF); (rename News _ L' _ _ => jN)
      refine join_str (FC) jF jN ?_ ?_
      · k_steps
        exact JoinS.end (by k_asm) (by k_asm) rfl (fun p hp => hp)
      intro jt jh jk jF' jN'
      k_steps
      k_extra "So"
      k_dflt (refine' (h_instr3_x ?qm ?q0 ?q1 ?q2 ?q3) _ _ _ _ _ _ _ _ _ _ _ _ _ _ _ _ _ _ ?kB ?kF ?kX ?kN ?kT ?kk ?XB ?TB ?kD ?T0 trivial ?hd ?hu ?_; (case kN => k_asm); (case qm => k_mem); (case q0 => omega); (case q1 => omega); (case q2 => omega); (case q3 => omega); k_extra "cF"; k_extra "cX"; k_extra "cH")
      intro tH2 gH2 hH2 kH2 T2 F2 N2 B2 X2 P2 D2
      (try k_lift B2)
      (try dsimp only)
      k_steps
      exact hret _ _ (by k_asm)
    · skip
      have hq2 : foundAt x (Txt.slice x (some z) (some (z + 2))) z = ms.headD 0 := by rw [law_found _ _ _ hz0, ← hns, ← hms]
      k_steps
      k_extra "So"
      (rename Fr _ L' _ _ => jF); (rename News _ L' _ _ => jN)
      refine join_val (fun t => .int (ms.headD 0) t) jF jN ?_ ?_
      · skip
        rcases Nat.eq_zero_or_pos ms.length with h0 | h0
        · k_steps
          all_goals first
            | exact JoinV.int (by k_asm) (by k_asm) (by cases ms with | nil => rfl | cons _ _ => cases h0) (fun p hp => by first | exact hp | exact .tail _ hp)
            | (exfalso; omega)
        · k_steps
          all_goals first
            | exact JoinV.int (by k_asm) (by k_asm) (by cases ms <;> rfl) (fun p hp => by first | exact hp | exact .tail _ hp)
            | (exfalso; omega)
      intro jt jh jk jF' jN'
      (try dsimp only)
      k_steps
      k_extra "So"
      k_dflt (refine' (h_instr3_v ?qm ?q0 ?q1 ?q2) _ _ _ _ _ _ _ _ _ _ _ _ _ _ _ _ _ _ ?kB ?kF ?kX ?kN ?kT ?kk ?XB ?TB ?kD ?T0 trivial ?hd ?hu ?_; (case kN => k_asm); (case qm => k_mem); (case q0 => omega); (case q1 => omega); (case q2 => omega); k_extra "cF"; k_extra "cX"; k_extra "cH")
      intro tH2 gH2 hH2 kH2 T2 F2 N2 B2 X2 P2 D2
      (try k_lift B2)
      (try dsimp only)
      k_steps
      exact hret _ _ (by k_asm)
  · skip
    have hyl : (y).length ≤ 100 := by
      first
        | omega
        | (rw [slice_ab x _ _ (by omega) (by omega), St_len, List.length_drop, List.length_take, cd_len]; omega)
    (rename Fr _ L' _ _ => hF); (rename News _ L' _ _ => hN)
    refine' CSrcA.rangeF x.length (fun i ys => IntsAre ys ((spotsOf (fun j => hitAt x y (j : Int)) i).map (· + 1))) rfl hF hN ?a1q rfl (by omega) ?a4q .nil ?a6q ?a7q
    case a1q => k_mem
    case a4q => exact fun i ys h => by rw [ints_len h, List.length_map]; exact spots_len _ _
    case a6q =>
      intro g i ys v I oI C oC D m₂ hh tk E' hi' hs hv; apply ex1E hv; clear hv; intro tv hoC hmx F2 N2 hoff hdis
      clear hdis
      refine wpAny_tests_one ?_
      k_steps
      all_goals (k_extra "So"; (rename Fr _ L' _ _ => fE); (rename News _ L' _ _ => nE); refine LCg.CompEnd.intro fE nE _ (fun p hp => hp) hoff rfl ?_)
      all_goals first
        | exact spots_put1 hs (hit_of (by with_reducible assumption)) (by omega)
        | exact spots_skip1 hs (hit_of (by with_reducible assumption))
        | exact spots_skip1 hs (hit_not (by with_reducible assumption))
    rintro g vs hi D hh tk F2 N2 _
    (try k_sweep)
    obtain ⟨ns, hns⟩ : ∃ ns, ns = (spotsOf (fun j => hitAt x y (j : Int)) x.length).map (· + 1) := ⟨_, rfl⟩
    rw [← hns] at hi
    have hnl : ns.length ≤ 7 := by rw [hns, List.length_map]; exact Nat.le_trans (spots_len _ _) (by omega)
    have hq : foundAt x y 1 = ns.headD 0 := by rw [law_found1, ← hns]
    k_steps
    (rename Fr _ L' _ _ => hF); (rename News _ L' _ _ => hN)
    refine' CSrcA.listF (fun i ys => IntsAre ys ((ns.take i).filter (fun k => decide (z ≤ k)))) rfl hF hN ?b1q hi (by omega) ?b4q .nil ?b6q ?b7q
    case b1q => k_mem
    case b4q => exact fun i ys h => by rw [ints_len h]; exact flt_len _ _ _
    case b6q =>
      intro g i ys v I oI C oC D m₂ hh tk E' hi' hs hv; apply ex1E hv; clear hv; intro tv hoC hmx F2 N2 hoff hdis
      clear hdis
      refine wpAny_tests_one ?_
      k_steps
      all_goals (k_extra "So"; (rename Fr _ L' _ _ => fE); (rename News _ L' _ _ => nE); refine LCg.CompEnd.intro fE nE _ (fun p hp => hp) hoff rfl ?_)
      all_goals first
        | exact flt_put hs hi' rfl (by simp only [decide_eq_true_eq]; omega)
        | exact flt_skip hs hi' (by simp only [decide_eq_false_iff_not]; omega)
    rintro g2 us hi2 D2 hh2 tk2 F3 N3 _
    (try k_sweep)
    rw [List.take_length] at hi2
    obtain ⟨ms, hms⟩ : ∃ ms, ms = ns.filter (fun k => decide (z ≤ k)) := ⟨_, rfl⟩
    rw [← hms] at hi2
    k_steps
    k_extra "So"
    k_dflt (refine' (h_instr2 ?qm ?q0 ?q1) _ _ _ _ _ _ _ _ _ _ _ _ _ _ _ _ _ _ ?kB ?kF ?kX ?kN ?kT ?kk ?XB ?TB ?kD ?T0 trivial ?hd ?hu ?_; (case kN => k_asm); (case qm => k_mem); (case q0 => omega); (case q1 => omega); k_extra "cF"; k_extra "cX"; k_extra "cH")
    intro tH1 gH1 hH1 kH1 T1 F1 N1 B1 X1 P1 D1
    (try k_lift B1)
    (try dsimp only)
    k_steps
    k_extra "So"
    (rename Fr _ L' _ _ => jF); (rename News _ L' _ _ => jN)
    refine join_val (fun t => .int (ns.headD 0) t) jF jN ?_ ?_
    · skip
      rcases Nat.eq_zero_or_pos ns.length with h0 | h0
      · k_steps
        all_goals first
          | exact JoinV.int (by k_asm) (by k_asm) (by cases ns with | nil => rfl | cons _ _ => cases h0) (fun p hp => by first | exact hp | exact .tail _ hp)
          | (exfalso; omega)
      · k_steps
        all_goals first
          | exact JoinV.int (by k_asm) (by k_asm) (by cases ns <;> rfl) (fun p hp => by first | exact hp | exact .tail _ hp)
          | (exfalso; omega)
    intro jt jh jk jF' jN'
    (try dsimp only)
    k_steps
    (with_reducible show Stop _)
    rcases Int.lt_or_le z 1 with hz0 | hz0
    · skip
      have hz0 : z = 0 := by omega
      k_steps
      k_extra "So"
      (rename Fr _ L' _ _ => jF); (rename News _ L' _ _ => jN)
      refine join_str (FC) jF jN ?_ ?_
      · k_steps
        exact JoinS.end (by k_asm) (by k_asm) rfl (fun p hp => hp)
      intro jt jh jk jF' jN'
      k_steps
      k_extra "So"
      k_dflt (refine' (h_instr3_x ?qm ?q0 ?q1 ?q2 ?q3) _ _ _ _ _ _ _ _ _ _ _ _ _ _ _ _ _ _ ?kB ?kF ?kX ?kN ?kT ?kk ?XB ?TB ?kD ?T0 trivial ?hd ?hu ?_; (case kN => k_asm); (case qm => k_mem); (case q0 => omega); (case q1 => omega); (case q2 => omega); (case q3 => omega); k_extra "cF"; k_extra "cX"; k_extra "cH")
      intro tH2 gH2 hH2 kH2 T2 F2 N2 B2 X2 P2 D2
      (try k_lift B2)
      (try dsimp only)
      k_steps
      exact hret _ _ (by k_asm)
    · skip
      have hq2 : foundAt x y z = ms.headD 0 := by rw [law_found _ _ _ hz0, ← hns, ← hms]
      k_steps
      k_extra "So"
      (rename Fr _ L' _ _ => jF); (rename News _ L' _ _ => jN)
      refine join_val (fun t => .int (ms.headD 0) t) jF jN ?_ ?_
      · skip
        rcases Nat.eq_zero_or_pos ms.length with h0 | h0
        · k_steps
          all_goals first
            | exact JoinV.int (by k_asm) (by k_asm) (by cases ms with | nil => rfl | cons _ _ => cases h0) (fun p hp => by first | exact hp | exact .tail _ hp)
            | (exfalso; omega)
        · k_steps
          all_goals first
            | exact JoinV.int (by k_asm) (by k_asm) (by cases ms <;> rfl) (fun p hp => by first | exact hp | exact .tail _ hp)
            | (exfalso; omega)
      intro jt jh jk jF' jN'
      (try dsimp only)
      k_steps
      k_extra "So"
      k_dflt (refine' (h_instr3_v ?qm ?q0 ?q1 ?q2) _ _ _ _ _ _ _ _ _ _ _ _ _ _ _ _ _ _ ?kB ?kF ?kX ?kN ?kT ?kk ?XB ?TB ?kD ?T0 trivial ?hd ?hu ?_; (case kN => k_asm); (case qm => k_mem); (case q0 => omega); (case q1 => omega); (case q2 => omega); k_extra "cF"; k_extra "cX"; k_extra "cH")
      intro tH2 gH2 hH2 kH2 T2 F2 N2 B2 X2 P2 D2
      (try k_lift B2)
      (try dsimp only)
      k_steps
      exact hret _ _ (by k_asm)
  )
  simpa using pick n 5 h
end Mine
end
section
open PySem.Spec
namespace Mine
theorem lstrip_at : ∀ (l : List Nat) (s : Nat), s < l.length → (∀ i, i < s → blank (l.getD i 0) = true) → blank (l.getD s 0) = false → lstrip l = l.drop s
  | [], s, h, _, _ => by simp at h
  | a :: r, 0, _, _, h2 => by rw [List.drop_zero]; exact lstrip_cons_ne r a (by simpa using h2)
  | a :: r, s + 1, h, h1, h2 => by
    rw [lstrip_cons r a (by simpa using h1 0 (by lia)), List.drop_succ_cons]
    exact lstrip_at r s (by simpa using h) (fun i hi => by simpa using h1 (i + 1) (by omega)) (by simpa using h2)
theorem lstrip_none : ∀ (l : List Nat), (∀ i, i < l.length → blank (l.getD i 0) = true) → lstrip l = []
  | [], _ => rfl
  | a :: r, h => by
    rw [lstrip_cons r a (by simpa using h 0 (by simp))]
    exact lstrip_none r fun i hi => by simpa using h (i + 1) (by simpa using hi)
theorem rstrip_at (l : List Nat) (s : Nat) (hs : s < l.length) (h1 : ∀ i, s < i → i < l.length → blank (l.getD i 0) = true) (h2 : blank (l.getD s 0) = false) : rstrip l = l.take (s + 1) := by
  have key : ∀ k, s + 1 + k ≤ l.length → rstrip (l.take (s + 1 + k)) = l.take (s + 1) := by
    intro k
    induction k with
    | zero =>
      intro _
      rw [Nat.add_zero, take_at l s hs, rstrip_snoc_ne _ _ h2]
    | succ k ih =>
      intro hk
      rw [show s + 1 + (k + 1) = (s + 1 + k) + 1 by lia, take_at l (s + 1 + k) (by omega), rstrip_snoc _ _ (h1 _ (by omega) (by omega)), ih (by omega)]
  have := key (l.length - (s + 1)) (by omega)
  rwa [show s + 1 + (l.length - (s + 1)) = l.length by omega, List.take_length] at this
theorem rstrip_none (l : List Nat) (h : ∀ i, i < l.length → blank (l.getD i 0) = true) : rstrip l = [] := by
  have key : ∀ k, k ≤ l.length → rstrip (l.take k) = [] := by
    intro k
    induction k with
    | zero => intro _; rfl
    | succ k ih =>
      intro hk
      rw [take_at l k (by omega), rstrip_snoc _ _ (h k (by omega)), ih (by omega)]
  have := key l.length (Nat.le_refl _)
  rwa [List.take_length] at this
theorem spots_none (p : Nat → Bool) : ∀ n, (spotsOf p n).length = 0 → ∀ i, i < n → p i = false
  | 0, _, i, hi => absurd hi (Nat.not_lt_zero _)
  | n + 1, h, i, hi => by
    rw [spots_succ] at h
    cases hp : p n with
    | true => rw [hp] at h; simp at h
    | false =>
      rw [hp] at h
      rcases Nat.lt_succ_iff_lt_or_eq.mp hi with h1 | rfl
      · exact spots_none p n (by simpa using h) i h1
      · exact hp
theorem spots_first (p : Nat → Bool) : ∀ n, 0 < (spotsOf p n).length → ∃ s : Nat, s < n ∧ (spotsOf p n).getD 0 0 = (s : Int) ∧ p s = true ∧ ∀ i, i < s → p i = false
  | 0, h => by simp [spotsOf] at h
  | n + 1, h => by
    rcases Nat.eq_zero_or_pos (spotsOf p n).length with h0 | h0
    · have hn := spots_none p n h0
      rw [spots_succ] at h ⊢
      cases hp : p n with
      | false => rw [hp] at h; exact absurd h0 (Nat.pos_iff_ne_zero.mp (by simpa using h))
      | true =>
        refine ⟨n, Nat.lt_succ_self _, ?_, hp, hn⟩
        rw [List.eq_nil_of_length_eq_zero h0]
        rfl
    · obtain ⟨s, h1, h2, h3, h4⟩ := spots_first p n h0
      refine ⟨s, Nat.lt_succ_of_lt h1, ?_, h3, h4⟩
      rw [spots_succ]
      split
      · rw [← h2]
        cases e : spotsOf p n with
        | nil => rw [e] at h0; simp at h0
        | cons a r => rfl
      · exact h2
theorem spots_last (p : Nat → Bool) : ∀ n, 0 < (spotsOf p n).length → ∃ s : Nat, s < n ∧ (spotsOf p n).getD (-1 + ((spotsOf p n).length : Int)).toNat 0 = (s : Int) ∧ p s = true ∧ ∀ i, s < i → i < n → p i = false
  | 0, h => by simp [spotsOf] at h
  | n + 1, h => by
    cases hp : p n with
    | true =>
      refine ⟨n, Nat.lt_succ_self _, ?_, hp, fun i h1 h2 => by omega⟩
      rw [spots_succ, hp]
      simp only [if_true]
      rw [List.length_append, List.length_singleton, show (-1 + ((((spotsOf p n).length + 1 : Nat)) : Int)).toNat = (spotsOf p n).length by lia, List.getD_eq_getElem?_getD, List.getElem?_append_right (Nat.le_refl _)]
      simp
    | false =>
      have e : spotsOf p (n + 1) = spotsOf p n := by rw [spots_succ, hp]; rfl
      rw [e] at h ⊢
      obtain ⟨s, h1, h2, h3, h4⟩ := spots_last p n h
      refine ⟨s, Nat.lt_succ_of_lt h1, h2, h3, fun i hi hi2 => ?_⟩
      rcases Nat.lt_succ_iff_lt_or_eq.mp hi2 with h5 | rfl
      · exact h4 i hi h5
      · exact hp
noncomputable abbrev solidAt (x : Str) (j : Nat) : Bool := !blank ((cd x).getD j 0)
theorem law_ltrim (x : Str) (ns : List Int) (hns : ns = spotsOf (solidAt x) x.length) (h : 0 < ns.length) : St (lstrip (cd x)) = Txt.slice x (some (ns.getD 0 0)) none := by
  subst hns
  obtain ⟨s, h1, h2, h3, h4⟩ := spots_first _ _ h
  rw [h2, slice_a x _ (by lia), Int.toNat_natCast]
  rw [lstrip_at (cd x) s (by rw [cd_len]; exact h1) (fun i hi => by simpa [solidAt] using h4 i hi) (by simpa [solidAt] using h3)]
theorem law_ltrim0 (x : Str) (ns : List Int) (hns : ns = spotsOf (solidAt x) x.length) (h : ns.length = 0) : St (lstrip (cd x)) = Str.ofString "" := by
  subst hns
  rw [lstrip_none (cd x) fun i hi => by simpa [solidAt] using spots_none _ _ h i (by rw [← cd_len]; exact hi)]
  rfl
theorem law_rtrim (x : Str) (ns : List Int) (hns : ns = spotsOf (solidAt x) x.length) (h : 0 < ns.length) : St (rstrip (cd x)) = Txt.slice x none (some (ns.getD (-1 + (ns.length : Int)).toNat 0 + 1)) := by
  subst hns
  obtain ⟨s, h1, h2, h3, h4⟩ := spots_last _ _ h
  rw [h2, slice_b x _ (by lia), show ((s : Int) + 1).toNat = s + 1 by lia]
  rw [rstrip_at (cd x) s (by rw [cd_len]; exact h1) (fun i hi hi2 => by simpa [solidAt] using h4 i hi (by rw [← cd_len]; exact hi2)) (by simpa [solidAt] using h3)]
theorem law_rtrim0 (x : Str) (ns : List Int) (hns : ns = spotsOf (solidAt x) x.length) (h : ns.length = 0) : St (rstrip (cd x)) = Str.ofString "" := by
  subst hns
  rw [rstrip_none (cd x) fun i hi => by simpa [solidAt] using spots_none _ _ h i (by rw [← cd_len]; exact hi)]
  rfl
end Mine
end
section
open PySem.Spec
namespace Mine
theorem alpha_le {x : Str} (h : Alpha x) : ∀ c ∈ cd x, c ≤ 255 := fun c hc => by
  have := h c hc
  simp only [List.mem_cons, List.not_mem_nil, or_false] at this
  lia
theorem in_ab (k : Nat) {b : Bool} (h : (!decide (k ∈ [97, 98])) = b) : (Builtin.Str.occurrences (Str.ofString "ab") ⟨#[k]⟩ 0 (Str.ofString "ab").length 1).isEmpty = b := (occ_ch _ k).trans h
theorem solid_yes {x : Str} {i : Nat} (hi : i < x.length) (h : (Builtin.Str.occurrences (Str.ofString " \t") (Txt.item x (0 + (i : Int))) 0 (Str.ofString " \t").length 1).isEmpty = true) : solidAt x i = true := by
  have := (occ_blank x (0 + (i : Int)) (by omega) (by omega)).symm.trans h
  rwa [show (0 + (i : Int)).toNat = i by omega] at this
theorem solid_no {x : Str} {i : Nat} (hi : i < x.length) (h : (Builtin.Str.occurrences (Str.ofString " \t") (Txt.item x (0 + (i : Int))) 0 (Str.ofString " \t").length 1).isEmpty = false) : solidAt x i = false := by
  have := (occ_blank x (0 + (i : Int)) (by omega) (by omega)).symm.trans h
  rwa [show (0 + (i : Int)).toNat = i by omega] at this
section
variable {prog : Program} {w : World} {A : Around} {E : Value → Shared → Prop} {s : Shared} {Q : Value → Shared → Prop} {t u : Tok}
theorem in_ab_yes {k : Nat} (h : k ∈ [97, 98]) (q : Q (.bool true) s) : wpAny (model prog w) A (compareOp .In (.str ⟨#[k]⟩ u) (.str (Str.ofString "ab") t)) Q E s :=
  PyProof.Rows.in_str (by rw [in_ab k (b := false) (by rw [decide_eq_true h]; rfl)]; exact q)
theorem in_ab_no {k : Nat} (h : ¬ k ∈ [97, 98]) (q : Q (.bool false) s) : wpAny (model prog w) A (compareOp .In (.str ⟨#[k]⟩ u) (.str (Str.ofString "ab") t)) Q E s :=
  PyProof.Rows.in_str (by rw [in_ab k (b := true) (by rw [decide_eq_false h]; rfl)]; exact q)
theorem eqS_no {x y : Str} (e : ¬ x = y) (h : Q (.bool false) s) : wpAny (model prog w) A (compareOp .Eq (.str x t) (.str y u)) Q E s := by
  refine PyProof.Rows.eq_str ?_
  have : (x == y) = false := by simpa using e
  rw [this]; exact h
end
end Mine
end
section
namespace Mine
theorem lay_K7 : True := by w_top off; k_with_none; (k_with "ktr_room" => (first | exact rm1 (by assumption) (by decide) | exact rm0 (by assumption) | exact rm2 (by assumption) (by decide) | exact rm3 (by assumption) (by decide) | exact rm4 (by assumption) (by decide))); (k_with "ktr_units" => (first | exact rm1 (by assumption) (by decide) | exact rm0 (by assumption) | exact rm2 (by assumption) (by decide) | exact rm3 (by assumption) (by decide) | exact rm4 (by assumption) (by decide))); (k_with "k_ne" => (first | assumption | (refine neN ?_; (try dsimp only); first | (refine Nat.ne_of_lt ?_; k_extra "kn"; done) | (refine Nat.ne_of_gt ?_; k_extra "kn"; done) | lia | omega))); (k_with "kn" => (repeat (first | with_reducible assumption | exact an0 (by with_reducible assumption) | exact an1 (by with_reducible assumption) | exact an2 (by with_reducible assumption) | exact an3 (by with_reducible assumption) | exact an4 (by with_reducible assumption) | exact an5 (by with_reducible assumption) | exact an6 (by with_reducible assumption) | exact an7 (by with_reducible assumption) | exact an8 (by with_reducible assumption) | exact ae1 (by with_reducible assumption) | exact ae2 (by with_reducible assumption) | exact ae3 (by with_reducible assumption) | exact ae4 (by with_reducible assumption) | exact ae5 (by with_reducible assumption) | exact ae6 (by with_reducible assumption) | exact ae7 (by with_reducible assumption) | exact ae8 (by with_reducible assumption) | exact Nat.lt_succ_self _ | refine lsu ?_))); (k_with "cF" => ((case kF => k_asm); (case kB => k_asm); (case kX => k_asm); (case kT => k_asm); (case kk => exact rfl))); (k_with "cH" => ((case hd => ktr_room); (case hu => ktr_units))); (k_with "cX" => ((case XB => assumption); (case TB => assumption); (case kD => assumption); (case T0 => first | assumption | exact KtsTurn.refl))); (k_with "So" => ((with_reducible show Stop _); refine Stop.of ?_)); (k_with "omega" => ((k_whole; first | ((with_reducible show (_ : Int) ≤ _); first | with_reducible assumption | decide | exact Int.le_trans (by with_reducible assumption) (by decide) | exact Int.le_trans (Int.le_of_lt (by with_reducible assumption)) (by decide) | exact ile (by with_reducible assumption) (by decide) | ((with_reducible show ((_ : Nat) : Int) ≤ _); exact Int.le_trans (Int.ofNat_le.mpr (by with_reducible assumption)) (by decide)) | exact Int.natCast_nonneg _) | ((with_reducible show (_ : Int) < _); first | with_reducible assumption | decide | exact Int.lt_of_le_of_lt (by with_reducible assumption) (by decide) | exact Int.lt_of_lt_of_le (by with_reducible assumption) (by decide) | exact ilt (by with_reducible assumption) (by decide) | ((with_reducible show ((_ : Nat) : Int) < _); exact Int.lt_of_le_of_lt (Int.ofNat_le.mpr (by with_reducible assumption)) (by decide))) | ((with_reducible show (_ : Nat) ≤ _); first | with_reducible assumption | exact Nat.le_of_ble_eq_true rfl | exact Nat.le_trans (by with_reducible assumption) (by decide)) | ((with_reducible show ¬ ((_ : Int) ≥ _)); refine Int.not_le.mpr ?_; omega) | ((with_reducible show _ ∧ _); refine And.intro ?_ ?_ <;> omega) | (law_clear; lia)))); (k_with "subscriptTail Name Constant ref int" => ((k_here; (with_reducible show wpAny _ _ (subscriptTail _ _ (Value.ref _) (Value.int _ _)) _ _ _); (with_unfolding_all refine' item_litK ?_ ?_ ?_ ?_ ?_ ?_; rotate_right 6; (focus ((is_list); done)); (decide); (decide); (rfl); (rotate_left 1; (with_unfolding_all rfl); rotate_right 1); k_whole)))); (k_with "ite" => ((k_closed; k_dflt (first | refine ite_pos (by decide +kernel) ?_ | refine ite_neg (by decide +kernel) ?_)))); (k_with "call builtin:isinstance" => (first | with_reducible refine IsiPair.int_str ?_ | with_reducible refine IsiPair.int_tuple ?_ | with_reducible refine IsiPair.str_str ?_ | with_reducible refine IsiPair.str_tuple ?_)); (k_with "storeName" => ((k_here; k_dflt (refine' storeX_L ?_ ?_ ?_ ?_ ?_; rotate_right 5; (rotate_left 4; (kernel_rfl!); rotate_right 4); (k_asm); (k_asm); (rotate_left 1; (rfl); rotate_right 1); k_whole; intro _ _ _; (try k_sweep))))); (k_with "eval Name" => ((k_here; (fail_if_success (with_reducible show wpAny _ _ (eval (PySem.Expr.Name _ _) (compEnvC _ _ _ _)) _ _ _)); name_kind "cell"; k_dflt (refine' nameX_C ?_ ?_ ?_ ?_ ?_ ?_ ?_ ?_; rotate_right 8; (rotate_left 5; (rfl); rotate_right 5); (rotate_left 5; (kernel_rfl); rotate_right 5); (k_asm); (rfl); (focus ((k_mem); done)); (k_asm); (rotate_left 1; (kernel_rfl); rotate_right 1); k_whole)))); (k_with "eval Name" => ((k_here; (fail_if_success (with_reducible show wpAny _ _ (eval (PySem.Expr.Name _ _) (compEnvC _ _ _ _)) _ _ _)); name_kind "globalImplicit"; k_dflt (first | ((refine' nameX_K ?_ ?_ ?_ ?_ ?_ ?_ ?_ ?_; rotate_right 8; (rotate_left 6; (kernel_rfl); rotate_right 6); (k_asm); (k_asm); (k_asm); (rotate_left 2; (rfl); rotate_right 2); (rotate_left 2; (kernel_rfl); rotate_right 2); (focus ((k_is); done)); k_whole)) | ((refine' nameX_B ?_ ?_ ?_ ?_ ?_ ?_ ?_ ?_ ?_ ?_; rotate_right 10; (rotate_left 8; (kernel_rfl); rotate_right 8); (k_asm); (k_asm); (k_asm); (rotate_left 4; (rfl); rotate_right 4); (rotate_left 4; (kernel_rfl); rotate_right 4); (focus ((k_is); done)); (focus ((boot_fast); done)); (decide +kernel); k_whole)))))); (k_with "eval Name" => ((k_here; (fail_if_success (with_reducible show wpAny _ _ (eval (PySem.Expr.Name _ _) (compEnvC _ _ _ _)) _ _ _)); name_kind "local"; k_dflt (refine' nameX_L ?_ ?_ ?_ ?_ ?_ ?_; rotate_right 6; (rotate_left 4; (kernel_rfl); rotate_right 4); (k_asm); (rotate_left 2; (rfl); rotate_right 2); (rotate_left 2; (kernel_rfl); rotate_right 2); (focus ((((repeat (first | with_reducible exact nm_hit | ((with_reducible refine Eq.trans (nm_miss ?_) ?_; kernel_rfl)))); (try rfl))); done)); k_whole)))); (k_with "exec Raise some none" => ((k_here; k_dflt (refine' raise_leave ?_ ?_ ?_ ?_ ?_ ?_ ?_ ?_ ?_ ?_; rotate_right 10; (k_asm); (k_asm); (k_asm); (k_asm); (k_asm); (exact rfl); (ktr_room); (rotate_left 1; (exact rfl); rotate_right 1); (rotate_left 1; (exact rfl); rotate_right 1)); intro _ _ _ _ _; (try dsimp only)))); (k_with "leaving ref" => ((k_here; k_dflt (refine' leave_next ?_ ?_ ?_ ?_ ?_; rotate_right 5; (rotate_left 2; (assumption); rotate_right 2); (rotate_left 1; (assumption); rotate_right 1); (assumption); (assumption)); intro _ _ _; (try dsimp only)))); (have : (0 : Nat) ≤ 1 := by (first | (walk1; done) | decide)); trivial
theorem OK7.gdK7 : True := trivial
open OK7
theorem wd_K7_2 : True := by (k_with "execs cons" => (k_here; (with_reducible show wpAny _ _ (execs (_ :: _) _) _ _ _); (try k_made); (with_reducible rename Fr _ _ _ _ => kFq); (with_reducible rename News _ _ _ _ => kNq); (refine foldStB kFq kNq ?_); intro _ _ _ _ _ _ _; (try k_sweep); (refine execs_consF ?_); (try k_fold))); (k_with "exec Assign" => (k_here; refine Assign_NameF ?_)); (k_with "exec Return some" => (k_here; refine Return_someF ?_)); (k_with "eval BinOp" => (first | (k_here; k_compRoot) | refine BinOpF ?_)); (k_with "eval Subscript" => (first | (k_here; k_compRoot) | refine SubscriptF ?_)); (k_with "callWith" => (refine callWith_biF ?_)); (k_with "spliced" => (k_here; (with_reducible refine args_nil ?_); (try dsimp only [List.cons_append, List.nil_append]))); trivial
theorem wd_K7_3 : True := by (k_with "call type:range" => ((fail_if_success (fail_if_success (have : True := gdK7))); ((k_here; k_dflt (first | ((refine' range1N ?_ ?_ ?_; rotate_right 3; (rotate_left 1; (k_asm); rotate_right 1); (k_asm))) | ((refine' range2N ?_ ?_ ?_; rotate_right 3; (rotate_left 1; (k_asm); rotate_right 1); (k_asm)))); intro rR hR xR uR vR tkR fR nR)))); (k_with "exec Assign cons ListComp" => ((fail_if_success (fail_if_success (have : True := gdK7))); ((k_here; k_dflt (refine' comp_invA ?_ ?_ ?_ ?_ ?_ ?_ ?_ ?_ ?_ ?_ ?_ ?_; rotate_right 12; (k_asm); (rfl); (with_unfolding_all rfl); (with_unfolding_all rfl); (decide); (rfl); (decide); (rfl); (rfl); (rfl); (rotate_left 1; (focus (((intro _; rfl)); done)); rotate_right 1)))))); (k_with "eval ListComp" => ((fail_if_success (fail_if_success (have : True := gdK7))); ((k_here; k_dflt (refine' comp_inv ?_ ?_ ?_ ?_ ?_ ?_ ?_ ?_; rotate_right 8; (k_asm); (with_unfolding_all rfl); (decide); (rfl); (decide); (rfl); (rotate_left 1; (focus (((intro _; rfl)); done)); rotate_right 1)))))); (k_with "call ref" => ((k_here; k_dflt (refine Stop.go ?_)))); (k_with "eval IfExp" => ((fail_if_success (fail_if_success (have : True := gdK7))); ((k_here; (with_reducible show wpAny _ _ (PySem.eval (Expr.IfExp (Expr.Compare _ [CmpOp.NotEq] _ _) _ _ _) _) _ _ _); (fail_if_success (with_reducible show wpAny _ _ _ (JoinS _ _ _ _ _ _) _ _)); k_dflt (refine Stop.go ?_))))); (k_with "CompEnd" => ((fail_if_success (fail_if_success (have : True := gdK7))); ((k_here; k_dflt (refine Stop.go ?_))))); (k_with "compareOp NotEq ref ref" => ((fail_if_success (fail_if_success (have : True := gdK7))); ((k_here; k_dflt (first | ((refine' ne_ints_yes ?_ ?_ ?_ ?_ ?_ ?_ ?_; rotate_right 7; (k_asm); (focus ((k_mem); done)); (rotate_left 1; (focus ((k_mem); done)); rotate_right 1); (with_reducible assumption); (rotate_left 1; (focus ((first | with_reducible assumption | omega); done)); rotate_right 1); (ktr_units))) | ((refine' ne_ints_no ?_ ?_ ?_ ?_ ?_ ?_ ?_; rotate_right 7; (k_asm); (focus ((k_mem); done)); (rotate_left 1; (focus ((k_mem); done)); rotate_right 1); (with_reducible assumption); (rotate_left 1; (focus ((first | with_reducible assumption | omega); done)); rotate_right 1); (ktr_units)))))))); (k_with "compareOp Eq str str" => ((fail_if_success (fail_if_success (have : True := gdK7))); ((k_here; k_dflt (refine' eqS_yes ?_ ?_; rotate_right 2; (focus ((first | with_reducible rfl | with_reducible assumption | omega); done))))))); (k_with "compareOp NotEq str str" => ((fail_if_success (fail_if_success (have : True := gdK7))); ((k_here; k_dflt (refine' neS_no ?_ ?_; rotate_right 2; (focus ((first | with_reducible rfl | with_reducible assumption | omega); done))))))); (k_with "compareOp Eq int int" => ((fail_if_success (fail_if_success (have : True := gdK7))); ((k_here; k_dflt (refine' eqI_yes ?_ ?_; rotate_right 2; (focus ((first | with_reducible rfl | with_reducible assumption | omega); done))))))); (k_with "compareOp NotEq int int" => ((fail_if_success (fail_if_success (have : True := gdK7))); ((k_here; k_dflt (refine' neI_no ?_ ?_; rotate_right 2; (focus ((first | with_reducible rfl | with_reducible assumption | omega); done))))))); (k_with "compareOp In str str" => ((fail_if_success (fail_if_success (have : True := gdK7))); ((k_here; k_dflt (first | refine' in_ab_yes (by decide) ?_ | refine' in_ab_no (by decide) ?_))))); (k_with "compareOp Eq str str" => ((fail_if_success (fail_if_success (have : True := gdK7))); ((k_here; k_dflt (first | refine' eqS_yes (show (⟨#[_]⟩ : Str) = Str.ofString "Z" by decide) ?_ | refine' eqS_no (show ¬ (⟨#[_]⟩ : Str) = Str.ofString "Z" by decide) ?_))))); (k_with "subscriptTail" => ((fail_if_success (fail_if_success (have : True := gdK7))); ((k_here; (with_reducible show wpAny _ _ (subscriptTail _ _ (Value.str _ _) (Value.int _ _)) _ _ _); k_dflt (refine' item_str ?_ ?_ ?_ ?_; rotate_right 4; (focus ((exact fitsSsize_of (N := 9223372036854775808) (by omega) (by omega) (Int.le_refl _)); done)); (omega); (omega)); intro _)))); (k_with "subscriptTail Name Name str int" => ((fail_if_success (fail_if_success (have : True := gdK7))); ((k_here; (with_reducible show wpAny _ _ (subscriptTail _ _ (Value.str _ _) (Value.int _ _)) _ _ _); k_dflt (refine' item_str ?_ ?_ ?_ ?_; rotate_right 4; (focus ((exact fitsSsize_of (N := 9223372036854775808) (by omega) (by omega) (Int.le_refl _)); done)); (omega); (omega)); intro _)))); (k_with "subscriptTail Name UnaryOp ref int" => ((fail_if_success (fail_if_success (have : True := gdK7))); ((k_here; k_dflt (refine' item_list_ints_negR (k := -1) ?_ ?_ ?_ ?_ ?_ ?_ rfl; rotate_right 6; (focus (((exact isList_of (by k_asm) (by k_mem))); done)); (with_reducible assumption); (omega); (omega); (omega)); intro tneg)))); trivial
theorem c_letters {w : World} {mean : ExcName → Option Value} {mg mb : Str → Option Value} {pd cl : Addr} {o : Obj} {vs : List Value} {ns : List Int} {cc : Nat} {c : Int}  (hne : cl ≠ pd) (hI : IntsAre vs ns) (hns : ns.length ≤ 64) (hP : PoolIs w o cl c) (hc0 : 0 ≤ c) (hc1 : c ≤ 100)  :
   Cl w mean mg mb 415 150 [(pd, o), (cl, W.listOf vs.toArray cc)] [.ref pd] := by
  refine shed ?_ fun _ n h => ?_
  focus (
  dsimp only [Cl]
  intro dp un gd cn cs a ccd cl' A₀ base h₀ L m s Q E B F X N T hk XB TB hd hu hret
  refine wpAny_call ?_
  k_dflt (refine' code_defE0C B F X N T ?kA ?hf ?hke ?k6 ?k7 ?k8 ?k9 ?kB ?kD ?_ ?c2 ?c3 ?c4; (case kA => exact rfl); (case hf => exact rfl); (case hke => exact hk); (case k6 => k_is); (case k7 => k_is); (case k8 => ktr_room); (case k9 => exact BindsTo.of_eq rfl); (case kB => exact rfl); (case kD => decide +kernel); (case c2 => exact rfl); (case c3 => exact rfl); (case c4 => exact rfl); k_whole)
  intro g' L' h' tk' cells' FG' F' N' Y' B' X' T' D' l1
  (try k_lt l1)
  obtain ⟨oc1, oc2, hE, d1, d2⟩ := CellsAre.two Y'
  subst hE
  (try simp only [List.cons_append, List.nil_append] at N')
  (try dsimp only)
  (try k_lift B')
  (try k_fold)
  k_steps
  k_extra "So"
  k_dflt (refine' c_signsX ?U ?hm ?hne ?hI ?hns ?hP ?c0 ?c1 ?k0 ?k1 _ _ _ _ _ _ _ _ _ _ _ _ _ _ _ _ _ ?kB ?kF ?kX ?kN ?kT ?kk trivial ?hd ?hu ?_; (case kN => k_asm); k_extra "cF"; (case U => k_updF); (case hP => assumption); (case hm => k_mem); (case hne => first | assumption | k_ne); (case hI => assumption); (case hns => assumption); (case c0 => omega); (case c1 => omega); (case k0 => omega); (case k1 => omega); k_extra "cH")
  intro x t_x o_x c_x h_x k_x c0_x c1_x x_l x_a P_x F_x N_x
  (try dsimp only at N_x)
  k_steps
  (rename Fr _ L' _ _ => hF); (rename News _ L' _ _ => hN)
  refine' CSrc.textF (fun i ys => StrsAre ys (ones (((cd x).take i).map upc))) rfl hF hN ?a12 ?a42 .nil ?a62 ?a72
  case a12 => omega
  case a42 => exact fun i ys h => map_len h
  case a62 =>
    intro g i ys v I oI C oC D m₂ hh tk E' hi' hs hv; apply ex2E hv; clear hv; intro c tv hc hoC hmx F2 N2 hoff hdis
    clear hdis
    have hcm := x_a c (mem_of_get hc)
    simp only [List.mem_cons, List.not_mem_nil, or_false] at hcm
    refine wpAny_tests_nil ?_
    simp only [if_true]
    rcases hcm with rfl | rfl | rfl | rfl | rfl | rfl | rfl | rfl
    · skip
      k_steps
      all_goals (k_extra "So"; (rename Fr _ L' _ _ => fE); (rename News _ L' _ _ => nE); refine LCg.CompEnd.intro fE nE _ (fun p hp => hp) hoff rfl ?_)
      all_goals first
        | exact map_snoc hs hc
        | exact (show StrsAre _ (ones (((cd x).take _).map upc)) from map_snoc (f := upc) hs hc)
        | exact (show StrsAre _ (ones (((cd x).take _).map loc)) from map_snoc (f := loc) hs hc)
    · skip
      k_steps
      all_goals (k_extra "So"; (rename Fr _ L' _ _ => fE); (rename News _ L' _ _ => nE); refine LCg.CompEnd.intro fE nE _ (fun p hp => hp) hoff rfl ?_)
      all_goals first
        | exact map_snoc hs hc
        | exact (show StrsAre _ (ones (((cd x).take _).map upc)) from map_snoc (f := upc) hs hc)
        | exact (show StrsAre _ (ones (((cd x).take _).map loc)) from map_snoc (f := loc) hs hc)
    · skip
      k_steps
      all_goals (k_extra "So"; (rename Fr _ L' _ _ => fE); (rename News _ L' _ _ => nE); refine LCg.CompEnd.intro fE nE _ (fun p hp => hp) hoff rfl ?_)
      all_goals first
        | exact map_snoc hs hc
        | exact (show StrsAre _ (ones (((cd x).take _).map upc)) from map_snoc (f := upc) hs hc)
        | exact (show StrsAre _ (ones (((cd x).take _).map loc)) from map_snoc (f := loc) hs hc)
    · skip
      k_steps
      all_goals (k_extra "So"; (rename Fr _ L' _ _ => fE); (rename News _ L' _ _ => nE); refine LCg.CompEnd.intro fE nE _ (fun p hp => hp) hoff rfl ?_)
      all_goals first
        | exact map_snoc hs hc
        | exact (show StrsAre _ (ones (((cd x).take _).map upc)) from map_snoc (f := upc) hs hc)
        | exact (show StrsAre _ (ones (((cd x).take _).map loc)) from map_snoc (f := loc) hs hc)
    · skip
      k_steps
      all_goals (k_extra "So"; (rename Fr _ L' _ _ => fE); (rename News _ L' _ _ => nE); refine LCg.CompEnd.intro fE nE _ (fun p hp => hp) hoff rfl ?_)
      all_goals first
        | exact map_snoc hs hc
        | exact (show StrsAre _ (ones (((cd x).take _).map upc)) from map_snoc (f := upc) hs hc)
        | exact (show StrsAre _ (ones (((cd x).take _).map loc)) from map_snoc (f := loc) hs hc)
    · skip
      k_steps
      all_goals (k_extra "So"; (rename Fr _ L' _ _ => fE); (rename News _ L' _ _ => nE); refine LCg.CompEnd.intro fE nE _ (fun p hp => hp) hoff rfl ?_)
      all_goals first
        | exact map_snoc hs hc
        | exact (show StrsAre _ (ones (((cd x).take _).map upc)) from map_snoc (f := upc) hs hc)
        | exact (show StrsAre _ (ones (((cd x).take _).map loc)) from map_snoc (f := loc) hs hc)
    · skip
      k_steps
      all_goals (k_extra "So"; (rename Fr _ L' _ _ => fE); (rename News _ L' _ _ => nE); refine LCg.CompEnd.intro fE nE _ (fun p hp => hp) hoff rfl ?_)
      all_goals first
        | exact map_snoc hs hc
        | exact (show StrsAre _ (ones (((cd x).take _).map upc)) from map_snoc (f := upc) hs hc)
        | exact (show StrsAre _ (ones (((cd x).take _).map loc)) from map_snoc (f := loc) hs hc)
    · skip
      k_steps
      all_goals (k_extra "So"; (rename Fr _ L' _ _ => fE); (rename News _ L' _ _ => nE); refine LCg.CompEnd.intro fE nE _ (fun p hp => hp) hoff rfl ?_)
      all_goals first
        | exact map_snoc hs hc
        | exact (show StrsAre _ (ones (((cd x).take _).map upc)) from map_snoc (f := upc) hs hc)
        | exact (show StrsAre _ (ones (((cd x).take _).map loc)) from map_snoc (f := loc) hs hc)
  rintro g ys2 hs2 D2 hh2 tk2 F2 N2 _
  k_steps
  refine join_ones_l (isList_of N2 (.head _)) hs2 (map_len2 (by omega)) fun tj kj => ?_
  rw [map_all]
  k_steps
  (rename Fr _ L' _ _ => hF); (rename News _ L' _ _ => hN)
  refine' CSrc.textF (fun i ys => StrsAre ys (ones (((cd x).take i).map loc))) rfl hF hN ?a13 ?a43 .nil ?a63 ?a73
  case a13 => omega
  case a43 => exact fun i ys h => map_len h
  case a63 =>
    intro g i ys v I oI C oC D m₂ hh tk E' hi' hs hv; apply ex2E hv; clear hv; intro c tv hc hoC hmx F2 N2 hoff hdis
    clear hdis
    have hcm := x_a c (mem_of_get hc)
    simp only [List.mem_cons, List.not_mem_nil, or_false] at hcm
    refine wpAny_tests_nil ?_
    simp only [if_true]
    rcases hcm with rfl | rfl | rfl | rfl | rfl | rfl | rfl | rfl
    · skip
      k_steps
      all_goals (k_extra "So"; (rename Fr _ L' _ _ => fE); (rename News _ L' _ _ => nE); refine LCg.CompEnd.intro fE nE _ (fun p hp => hp) hoff rfl ?_)
      all_goals first
        | exact map_snoc hs hc
        | exact (show StrsAre _ (ones (((cd x).take _).map upc)) from map_snoc (f := upc) hs hc)
        | exact (show StrsAre _ (ones (((cd x).take _).map loc)) from map_snoc (f := loc) hs hc)
    · skip
      k_steps
      all_goals (k_extra "So"; (rename Fr _ L' _ _ => fE); (rename News _ L' _ _ => nE); refine LCg.CompEnd.intro fE nE _ (fun p hp => hp) hoff rfl ?_)
      all_goals first
        | exact map_snoc hs hc
        | exact (show StrsAre _ (ones (((cd x).take _).map upc)) from map_snoc (f := upc) hs hc)
        | exact (show StrsAre _ (ones (((cd x).take _).map loc)) from map_snoc (f := loc) hs hc)
    · skip
      k_steps
      all_goals (k_extra "So"; (rename Fr _ L' _ _ => fE); (rename News _ L' _ _ => nE); refine LCg.CompEnd.intro fE nE _ (fun p hp => hp) hoff rfl ?_)
      all_goals first
        | exact map_snoc hs hc
        | exact (show StrsAre _ (ones (((cd x).take _).map upc)) from map_snoc (f := upc) hs hc)
        | exact (show StrsAre _ (ones (((cd x).take _).map loc)) from map_snoc (f := loc) hs hc)
    · skip
      k_steps
      all_goals (k_extra "So"; (rename Fr _ L' _ _ => fE); (rename News _ L' _ _ => nE); refine LCg.CompEnd.intro fE nE _ (fun p hp => hp) hoff rfl ?_)
      all_goals first
        | exact map_snoc hs hc
        | exact (show StrsAre _ (ones (((cd x).take _).map upc)) from map_snoc (f := upc) hs hc)
        | exact (show StrsAre _ (ones (((cd x).take _).map loc)) from map_snoc (f := loc) hs hc)
    · skip
      k_steps
      all_goals (k_extra "So"; (rename Fr _ L' _ _ => fE); (rename News _ L' _ _ => nE); refine LCg.CompEnd.intro fE nE _ (fun p hp => hp) hoff rfl ?_)
      all_goals first
        | exact map_snoc hs hc
        | exact (show StrsAre _ (ones (((cd x).take _).map upc)) from map_snoc (f := upc) hs hc)
        | exact (show StrsAre _ (ones (((cd x).take _).map loc)) from map_snoc (f := loc) hs hc)
    · skip
      k_steps
      all_goals (k_extra "So"; (rename Fr _ L' _ _ => fE); (rename News _ L' _ _ => nE); refine LCg.CompEnd.intro fE nE _ (fun p hp => hp) hoff rfl ?_)
      all_goals first
        | exact map_snoc hs hc
        | exact (show StrsAre _ (ones (((cd x).take _).map upc)) from map_snoc (f := upc) hs hc)
        | exact (show StrsAre _ (ones (((cd x).take _).map loc)) from map_snoc (f := loc) hs hc)
    · skip
      k_steps
      all_goals (k_extra "So"; (rename Fr _ L' _ _ => fE); (rename News _ L' _ _ => nE); refine LCg.CompEnd.intro fE nE _ (fun p hp => hp) hoff rfl ?_)
      all_goals first
        | exact map_snoc hs hc
        | exact (show StrsAre _ (ones (((cd x).take _).map upc)) from map_snoc (f := upc) hs hc)
        | exact (show StrsAre _ (ones (((cd x).take _).map loc)) from map_snoc (f := loc) hs hc)
    · skip
      k_steps
      all_goals (k_extra "So"; (rename Fr _ L' _ _ => fE); (rename News _ L' _ _ => nE); refine LCg.CompEnd.intro fE nE _ (fun p hp => hp) hoff rfl ?_)
      all_goals first
        | exact map_snoc hs hc
        | exact (show StrsAre _ (ones (((cd x).take _).map upc)) from map_snoc (f := upc) hs hc)
        | exact (show StrsAre _ (ones (((cd x).take _).map loc)) from map_snoc (f := loc) hs hc)
  rintro g ys3 hs3 D3 hh3 tk3 F3 N3 _
  k_steps
  refine join_ones_l (isList_of N3 (.head _)) hs3 (map_len2 (by omega)) fun tj kj => ?_
  rw [map_all]
  k_steps
  k_extra "So"
  k_dflt (refine' (h_ucase ?qm ?q0 ?q1) _ _ _ _ _ _ _ _ _ _ _ _ _ _ _ _ _ _ ?kB ?kF ?kX ?kN ?kT ?kk ?XB ?TB ?kD ?T0 trivial ?hd ?hu ?_; (case kN => k_asm); (case qm => k_mem); (case q0 => omega); (case q1 => exact alpha_le x_a); k_extra "cF"; k_extra "cX"; k_extra "cH")
  intro tH1 gH1 hH1 kH1 T1 F1 N1 B1 X1 P1 D1
  (try k_lift B1)
  (try dsimp only)
  k_steps
  k_extra "So"
  k_dflt (refine' (h_lcase ?qm ?q0 ?q1) _ _ _ _ _ _ _ _ _ _ _ _ _ _ _ _ _ _ ?kB ?kF ?kX ?kN ?kT ?kk ?XB ?TB ?kD ?T0 trivial ?hd ?hu ?_; (case kN => k_asm); (case qm => k_mem); (case q0 => omega); (case q1 => exact alpha_le x_a); k_extra "cF"; k_extra "cX"; k_extra "cH")
  intro tH2 gH2 hH2 kH2 T2 F2 N2 B2 X2 P2 D2
  (try k_lift B2)
  (try dsimp only)
  k_steps
  (rename Fr _ L' _ _ => hF); (rename News _ L' _ _ => hN)
  refine' CSrcA.rangeF x.length (fun i ys => IntsAre ys (spotsOf (solidAt x) i)) rfl hF hN ?b1 rfl (by omega) ?b4 .nil ?b6 ?b7
  case b1 => k_mem
  case b4 => exact fun i ys h => by rw [ints_len h]; exact spots_len _ _
  case b6 =>
    intro g i ys v I oI C oC D m₂ hh tk E' hi' hs hv; apply ex1E hv; clear hv; intro tv hoC hmx F2 N2 hoff hdis
    clear hdis
    refine wpAny_tests_one ?_
    k_steps
    all_goals (k_extra "So"; (rename Fr _ L' _ _ => fE); (rename News _ L' _ _ => nE); refine LCg.CompEnd.intro fE nE _ (fun p hp => hp) hoff rfl ?_)
    all_goals first
      | exact spots_put hs (solid_yes hi' (by with_reducible assumption)) (by omega)
      | exact spots_skip hs (solid_no hi' (by with_reducible assumption))
  rintro g vs hi D hh tk F2 N2 _
  (try k_sweep)
  obtain ⟨ns, hns⟩ : ∃ ns, ns = spotsOf (solidAt x) x.length := ⟨_, rfl⟩
  rw [← hns] at hi
  have hnl : ns.length ≤ 7 := by rw [hns]; exact Nat.le_trans (spots_len _ _) (by omega)
  k_steps
  k_extra "So"
  (rename Fr _ L' _ _ => jF); (rename News _ L' _ _ => jN)
  refine join_str (St (lstrip (cd x))) jF jN ?_ ?_
  · rcases Nat.eq_zero_or_pos ns.length with h0 | h0
    · k_steps
      exact JoinS.end (by k_asm) (by k_asm) (law_ltrim0 x ns hns h0).symm (fun p hp => by first | exact hp | exact .tail _ hp)
    · k_steps
      exact JoinS.end (by k_asm) (by k_asm) (law_ltrim x ns hns h0).symm (fun p hp => by first | exact hp | exact .tail _ hp)
  intro jt jh jk jF' jN'
  k_steps
  k_extra "So"
  (rename Fr _ L' _ _ => jF); (rename News _ L' _ _ => jN)
  refine join_str (St (rstrip (cd x))) jF jN ?_ ?_
  · rcases Nat.eq_zero_or_pos ns.length with h0 | h0
    · k_steps
      exact JoinS.end (by k_asm) (by k_asm) (law_rtrim0 x ns hns h0).symm (fun p hp => by first | exact hp | exact .tail _ hp)
    · k_steps
      exact JoinS.end (by k_asm) (by k_asm) (law_rtrim x ns hns h0).symm (fun p hp => by first | exact hp | exact .tail _ hp)
  intro jt jh jk jF' jN'
  k_steps
  k_extra "So"
  k_dflt (refine' (h_ltrim ?qm ?q0) _ _ _ _ _ _ _ _ _ _ _ _ _ _ _ _ _ _ ?kB ?kF ?kX ?kN ?kT ?kk ?XB ?TB ?kD ?T0 trivial ?hd ?hu ?_; (case kN => k_asm); (case qm => k_mem); (case q0 => omega); k_extra "cF"; k_extra "cX"; k_extra "cH")
  intro tH3 gH3 hH3 kH3 T3 F3 N3 B3 X3 P3 D3
  (try k_lift B3)
  (try dsimp only)
  k_steps
  k_extra "So"
  k_dflt (refine' (h_rtrim ?qm ?q0) _ _ _ _ _ _ _ _ _ _ _ _ _ _ _ _ _ _ ?kB ?kF ?kX ?kN ?kT ?kk ?XB ?TB ?kD ?T0 trivial ?hd ?hu ?_; (case kN => k_asm); (case qm => k_mem); (case q0 => omega); k_extra "cF"; k_extra "cX"; k_extra "cH")
  intro tH4 gH4 hH4 kH4 T4 F4 N4 B4 X4 P4 D4
  (try k_lift B4)
  (try dsimp only)
  k_steps
  exact hret _ _ (by k_asm)
  )
  simpa using pick n 5 h
end Mine
end
section
open PySem.Spec
namespace Mine
noncomputable def digv (c : Nat) : Nat := if c < 58 then c - 48 else c - 55
noncomputable def amtV (b : Nat) (v : Int) (l : List Nat) : Int := l.foldl (fun a c => a * (b : Int) + (digv c : Int)) v
theorem digv_hexd {k : Nat} (h : k < 16) : digv (hexd k) = k := by
  unfold digv hexd
  split <;> split <;> lia
theorem amtV_snoc (b : Nat) (v : Int) (l : List Nat) (c : Nat) : amtV b v (l ++ [c]) = amtV b v l * (b : Int) + (digv c : Int) := by simp [amtV]
theorem amtV_cons (b : Nat) (v : Int) (l : List Nat) (c : Nat) : amtV b v (c :: l) = amtV b (v * (b : Int) + (digv c : Int)) l := rfl
theorem amtV_add (b : Nat) : ∀ (l : List Nat) (v : Int), amtV b v l = v * (b : Int) ^ l.length + amtV b 0 l
  | [], v => by simp [amtV]
  | c :: r, v => by
    rw [amtV_cons, amtV_cons, amtV_add b r (v * (b : Int) + (digv c : Int)), amtV_add b r (0 * (b : Int) + (digv c : Int)), List.length_cons, Int.pow_succ, Int.add_mul, Int.zero_mul, Int.zero_add]
    have e : v * (b : Int) * (b : Int) ^ r.length = v * ((b : Int) ^ r.length * (b : Int)) := by rw [Int.mul_assoc, Int.mul_comm (b : Int) ((b : Int) ^ r.length)]
    rw [e]; lia
theorem amt_inbF (b : Nat) (hb : 2 ≤ b) (hb2 : b ≤ 16) : ∀ (f n : Nat) (acc : List Nat), n < b ^ f → amtV b 0 (inbF b f n acc) = (n : Int) * (b : Int) ^ acc.length + amtV b 0 acc
  | 0, n, acc, h => by
    have : n = 0 := by simpa using h
    subst this
    simp [inbF]
  | f + 1, n, acc, h => by
    unfold inbF
    split
    · have hm : n % b < b := Nat.mod_lt _ (by omega)
      rw [amt_inbF b hb hb2 f (n / b) _ (by rw [Nat.pow_succ] at h; exact Nat.div_lt_of_lt_mul (by rwa [Nat.mul_comm] at h)), List.length_cons, amtV_cons, amtV_add b acc, digv_hexd (by omega), Int.zero_mul, Int.zero_add, Int.pow_succ]
      have e : ((n / b : Nat) : Int) * ((b : Int) ^ acc.length * (b : Int)) = ((n / b : Nat) : Int) * (b : Int) * (b : Int) ^ acc.length := by rw [Int.mul_assoc, Int.mul_comm (b : Int)]
      have d : (n : Int) = ((n / b : Nat) : Int) * (b : Int) + ((n % b : Nat) : Int) := by
        have := Nat.div_add_mod n b
        rw [Nat.mul_comm] at this
        exact_mod_cast this.symm
      rw [e, ← Int.add_assoc, ← Int.add_mul, ← d]
    · have : n = 0 := by lia
      subst this
      simp
theorem lt_pow20 {b n : Nat} (hb : 2 ≤ b) (h : n ≤ 65535) : n < b ^ 20 := Nat.lt_of_lt_of_le (by omega : n < 2 ^ 20) (Nat.pow_le_pow_left hb 20)
theorem amt_inb (b n : Nat) (hb : 2 ≤ b) (hb2 : b ≤ 16) (h : n ≤ 65535) : amtV b 0 (inb b n) = (n : Int) := by
  unfold inb
  rw [amt_inbF b hb hb2 20 n [] (lt_pow20 hb h)]
  simp [amtV]
theorem inbF_all (b : Nat) (hb : 1 ≤ b) : ∀ (f n : Nat) (acc : List Nat), (∀ c ∈ acc, ∃ k, k < b ∧ c = hexd k) → ∀ c ∈ inbF b f n acc, ∃ k, k < b ∧ c = hexd k
  | 0, _, _, h => h
  | f + 1, n, acc, h => by
    unfold inbF
    split
    · refine inbF_all b hb f _ _ fun c hc => ?_
      rcases List.mem_cons.mp hc with rfl | hc
      · exact ⟨n % b, Nat.mod_lt _ hb, rfl⟩
      · exact h c hc
    · exact h
theorem inb_all (b n : Nat) (hb : 1 ≤ b) : ∀ c ∈ inb b n, ∃ k, k < b ∧ c = hexd k := inbF_all b hb 20 n [] (fun _ h => nomatch h)
theorem inbF_ne (b : Nat) : ∀ (f n : Nat) (acc : List Nat), (acc = [] → 1 ≤ f) → inbF b f n acc ≠ []
  | 0, n, acc, h => by unfold inbF; intro e; exact absurd (h e) (by decide)
  | f + 1, n, acc, h => by
    unfold inbF
    split
    · exact inbF_ne b f _ _ (fun e => by cases e)
    · next h2 => intro e; exact h2 (.inr e)
theorem inbF_le (b : Nat) (hb : 2 ≤ b) : ∀ (f n k : Nat) (acc : List Nat), n < b ^ k → (acc = [] → 1 ≤ k) → (inbF b f n acc).length ≤ k + acc.length
  | 0, n, k, acc, _, _ => by unfold inbF; omega
  | f + 1, n, k, acc, h, h2 => by
    unfold inbF
    split
    · next hc =>
      cases k with
      | zero =>
        have : n = 0 := by simpa using h
        rcases hc with hc | hc
        · omega
        · exact absurd (h2 hc) (by decide)
      | succ k =>
        have := inbF_le b hb f (n / b) k (hexd (n % b) :: acc) (by rw [Nat.pow_succ] at h; exact Nat.div_lt_of_lt_mul (by rwa [Nat.mul_comm] at h)) (fun e => by cases e)
        rw [List.length_cons] at this
        lia
    · omega
theorem amtV_grow (b : Nat) (hb : 1 ≤ b) : ∀ (l : List Nat) (v : Int), 0 ≤ v → v ≤ amtV b v l
  | [], v, _ => Int.le_refl _
  | c :: r, v, h => by
    rw [amtV_cons]
    have h1 : v ≤ v * (b : Int) + (digv c : Int) := by
      have h3 : v * 1 ≤ v * (b : Int) := Int.mul_le_mul_of_nonneg_left (by omega) h
      omega
    exact Int.le_trans h1 (amtV_grow b hb r _ (Int.le_trans h h1))
theorem amtV_app (b : Nat) (v : Int) (l r : List Nat) : amtV b v (l ++ r) = amtV b (amtV b v l) r := by simp [amtV]
theorem amtV_nonneg (b : Nat) (hb : 1 ≤ b) (l : List Nat) : 0 ≤ amtV b 0 l := amtV_grow b hb l 0 (Int.le_refl _)
theorem amt_part (b : Nat) (hb : 1 ≤ b) (l r : List Nat) : amtV b 0 l ≤ amtV b 0 (l ++ r) := by
  rw [amtV_app]
  exact amtV_grow b hb r _ (amtV_nonneg b hb l)
noncomputable abbrev HexC (c : Nat) : Prop := ∃ k, k < 16 ∧ c = hexd k
theorem find_hex {c : Nat} (h : HexC c) : Txt.find (Str.ofString "0123456789ABCDEF") ⟨#[c]⟩ = (digv c : Int) := by
  obtain ⟨k, hk, rfl⟩ := h
  exact (by decide +kernel : ∀ k, k < 16 → Txt.find (Str.ofString "0123456789ABCDEF") ⟨#[hexd k]⟩ = (digv (hexd k) : Int)) k hk
section
variable {prog : Program} {w : World} {A : Around} {E : Value → Shared → Prop} {s : Shared} {Q : Value → Shared → Prop} {t u : Tok}
theorem index_hex (hA : A.handled = none) {c : Nat} (h : HexC c) (q : ∀ t', Q (.int (digv c : Int) t') { s with toks := s.toks + 1 }) : wpAny (model prog w) A (call (.builtin "str.index") [.str (Str.ofString "0123456789ABCDEF") t, .str ⟨#[c]⟩ u]) Q E s :=
  index_or hA (fun e => by rw [find_hex h] at e; omega) (fun _ _ => by rw [find_hex h]; exact q _)
end
end Mine
end
section
open PySem.Spec
namespace Mine
theorem hexd_dig {k : Nat} (h : k < 10) : isDig (hexd k) = true := by
  unfold hexd isDig
  rw [if_pos h]
  exact decide_eq_true (by omega)
theorem inb10_dig (n : Nat) : ∀ c ∈ inb 10 n, isDig c = true := fun c hc => by
  obtain ⟨k, hk, rfl⟩ := inb_all 10 n (by decide) c hc
  exact hexd_dig hk
theorem val_amt : ∀ (l : List Nat) (v : Int), (∀ c ∈ l, isDig c = true) → l.foldl (fun (v : Int) (c : Nat) => 10 * v + (c : Int) - 48) v = amtV 10 v l
  | [], v, _ => rfl
  | c :: r, v, h => by
    have hc := of_decide_eq_true (h c (.head _))
    rw [List.foldl_cons, amtV_cons, val_amt r _ fun d hd => h d (.tail _ hd)]
    congr 1
    unfold digv
    rw [if_pos (by omega)]
    omega
theorem val_inb (n : Nat) (h : n ≤ 65535) : valOf (inb 10 n) = (n : Int) := (val_amt _ 0 (inb10_dig n)).trans (amt_inb 10 n (by decide) (by decide) h)
theorem inb_ne (n : Nat) : inb 10 n ≠ [] := inbF_ne 10 20 n [] fun _ => by decide
theorem inb_le (n : Nat) (h : n ≤ 65535) : (inb 10 n).length ≤ 6 := inbF_le 10 (by decide) 20 n 6 [] (by omega) fun _ => by decide
noncomputable abbrev Tails : List (List Nat) := [[], [120], [32, 55], [44], [36]]
theorem tw_all {p : Nat → Bool} : ∀ (l r : List Nat), (∀ c ∈ l, p c = true) → (∀ c, r.head? = some c → p c = false) → (l ++ r).takeWhile p = l
  | [], r, _, h => by
    cases r with
    | nil => rfl
    | cons a r => rw [List.nil_append, List.takeWhile_cons_of_neg (by rw [h a rfl]; decide)]
  | c :: l, r, h1, h2 => by
    rw [List.cons_append, List.takeWhile_cons_of_pos (h1 c (.head _)), tw_all l r (fun d hd => h1 d (.tail _ hd)) h2]
theorem drop3 (a b c : Nat) (l : List Nat) (k : Nat) : (a :: b :: c :: l).drop (3 + k) = l.drop k := by
  rw [Nat.add_comm]; rfl
section
variable {x : Str} {m sg : Nat} {tl : List Nat}
theorem vf_ds (hx : cd x = 32 :: 32 :: sg :: (inb 10 m ++ tl)) (ht : tl ∈ Tails) : dsOf x 3 = inb 10 m := by
  show ((cd x).drop 3).takeWhile isDig = _
  rw [hx]
  show (inb 10 m ++ tl).takeWhile isDig = _
  refine tw_all _ _ (inb10_dig m) fun c hc => ?_
  simp only [Tails, List.mem_cons, List.not_mem_nil, or_false] at ht
  rcases ht with rfl | rfl | rfl | rfl | rfl <;> simp at hc <;> subst hc <;> decide
theorem vf_len (hx : cd x = 32 :: 32 :: sg :: (inb 10 m ++ tl)) : x.length = 3 + (inb 10 m).length + tl.length := by
  rw [← cd_len, hx]
  simp only [List.length_cons, List.length_append]
  lia
theorem vf_tl (ht : tl ∈ Tails) : tl.length ≤ 2 := by
  simp only [Tails, List.mem_cons, List.not_mem_nil, or_false] at ht
  rcases ht with rfl | rfl | rfl | rfl | rfl <;> decide
theorem vf_after (hx : cd x = 32 :: 32 :: sg :: (inb 10 m ++ tl)) : (cd x).drop (3 + (inb 10 m).length) = tl := by
  rw [hx, drop3, List.drop_left]
theorem vf_dot (hx : cd x = 32 :: 32 :: sg :: (inb 10 m ++ tl)) (ht : tl ∈ Tails) {p : Int} (hp : p = 3 + ((inb 10 m).length : Int)) : (Txt.slice x (some p) (some (p + 1)) == Str.ofString ".") = false := by
  rw [slice_ab x _ _ (by omega) (by omega), List.drop_take, show p.toNat = 3 + (inb 10 m).length by omega, show (p + 1).toNat - (3 + (inb 10 m).length) = 1 by omega, vf_after hx]
  simp only [Tails, List.mem_cons, List.not_mem_nil, or_false] at ht
  rcases ht with rfl | rfl | rfl | rfl | rfl <;> decide
theorem vf_exp (hx : cd x = 32 :: 32 :: sg :: (inb 10 m ++ tl)) (ht : tl ∈ Tails) {p : Int} (hp : p = 3 + ((inb 10 m).length : Int)) (hl : p < (x.length : Int)) : occ (Str.ofString "EeDd") (Txt.item x p) = true := by
  rw [occ_item _ x p (by omega) hl, show p.toNat = 3 + (inb 10 m).length by omega, show cd (Str.ofString "EeDd") = [69, 101, 68, 100] from rfl]
  have e : (cd x).getD (3 + (inb 10 m).length) 0 = tl.getD 0 0 := by
    have h1 : (cd x).getD (3 + (inb 10 m).length) 0 = ((cd x).drop (3 + (inb 10 m).length)).getD 0 0 := by
      rw [getD_drop]
      rfl
    rw [h1, vf_after hx]
  rw [e]
  simp only [Tails, List.mem_cons, List.not_mem_nil, or_false] at ht
  rcases ht with rfl | rfl | rfl | rfl | rfl <;> decide
theorem head_dig : ∃ d r, inb 10 m = d :: r ∧ isDig d = true := by
  cases e : inb 10 m with
  | nil => exact absurd e (inb_ne m)
  | cons d r => exact ⟨d, r, rfl, inb10_dig m d (by rw [e]; exact .head _)⟩
theorem dig_blank {d : Nat} (h : isDig d = true) : blank d = false := by
  have := of_decide_eq_true h
  simp [blank]
  omega
theorem vf_nbN (hx : cd x = 32 :: 32 :: 45 :: (inb 10 m ++ tl)) : nb x = 2 := by
  unfold nb
  rw [hx]
  rfl
theorem vf_nbP (hx : cd x = 32 :: 32 :: 32 :: (inb 10 m ++ tl)) : nb x = 3 := by
  obtain ⟨d, r, e, hd⟩ := head_dig (m := m)
  unfold nb
  rw [hx, e]
  have h : (List.takeWhile blank (32 :: 32 :: 32 :: (d :: r ++ tl))) = [32, 32, 32] := tw_all [32, 32, 32] _ (by decide) fun c hc => by
    simp at hc
    subst hc
    exact dig_blank hd
  rw [h]
  rfl
theorem vf_sgN (hx : cd x = 32 :: 32 :: 45 :: (inb 10 m ++ tl)) : (Txt.slice x (some (nb x)) (some (nb x + 1)) == Str.ofString "-") = true := by
  rw [vf_nbN hx, slice_ab x _ _ (by decide) (by decide), hx]
  rfl
theorem vf_sgP (hx : cd x = 32 :: 32 :: 32 :: (inb 10 m ++ tl)) {z : Nat} (hz : isDig z = false) : (Txt.slice x (some (nb x)) (some (nb x + 1)) == St [z]) = false := by
  obtain ⟨d, r, e, hd⟩ := head_dig (m := m)
  rw [vf_nbP hx, slice_ab x _ _ (by decide) (by decide), hx, e]
  have : ¬ St [d] = St [z] := fun h => by
    have : [d] = [z] := by
      have := congrArg (fun y : Str => y.cps.toList) h
      simpa using this
    rw [List.cons.inj this |>.1, hz] at hd
    cases hd
  show (St [d] == St [z]) = false
  simpa using this
end
theorem told_cd (n : Int) (y : Str) : cd (Str.ofString "  " ++ St ((if n < 0 then 45 else 32) :: inb 10 n.natAbs) ++ y) = 32 :: 32 :: (if n < 0 then 45 else 32) :: (inb 10 n.natAbs ++ cd y) := by
  show cd (St [32, 32] ++ St ((if n < 0 then 45 else 32) :: inb 10 n.natAbs) ++ St (cd y)) = _
  rw [St_app, St_app]
  rfl
theorem val_neg {x : Str} {n : Int} {tl : List Nat} (hx : cd x = 32 :: 32 :: 45 :: (inb 10 n.natAbs ++ tl)) (ht : tl ∈ Tails) (h : n < 0) (hb : -40000 ≤ n) :
    (x.length ≤ 100 ∧ (3 : Int) = (nb x + 1) ∧ (3 : Int) ≤ (x.length : Int) ∧ (3 + ((inb 10 n.natAbs).length : Int)) = 3 + ((dsOf x 3).length : Int) ∧ (3 + ((inb 10 n.natAbs).length : Int)) ≤ (x.length : Int) ∧ 1 ≤ (dsOf x 3).length ∧ (dsOf x 3).length ≤ 6 ∧ valOf (dsOf x 3) = -n ∧ 1 ≤ -n ∧ -n ≤ 65535 ∧ ((Txt.slice x (some (3 + ((inb 10 n.natAbs).length : Int))) (some (3 + ((inb 10 n.natAbs).length : Int) + 1)) == Str.ofString ".") = false) ∧ (3 + ((inb 10 n.natAbs).length : Int) < (x.length : Int) → occ (Str.ofString "EeDd") (Txt.item x (3 + ((inb 10 n.natAbs).length : Int))) = true) ∧ (Txt.slice x (some (nb x)) (some (nb x + 1)) == Str.ofString "-") = true) := by
  have hl := vf_len hx
  have h2 := vf_tl ht
  have h6 := inb_le n.natAbs (by omega)
  have h1 : 1 ≤ (inb 10 n.natAbs).length := List.length_pos_iff.mpr (inb_ne _)
  refine ⟨by omega, by rw [vf_nbN hx]; rfl, by omega, by rw [vf_ds hx ht], by omega, by rw [vf_ds hx ht]; exact h1, by rw [vf_ds hx ht]; exact h6, by rw [vf_ds hx ht, val_inb _ (by omega)]; omega, by omega, by omega, vf_dot hx ht rfl, vf_exp hx ht rfl, vf_sgN hx⟩
theorem val_pos {x : Str} {n : Int} {tl : List Nat} (hx : cd x = 32 :: 32 :: 32 :: (inb 10 n.natAbs ++ tl)) (ht : tl ∈ Tails) (h : 0 ≤ n) (hb : n ≤ 40000) :
    (x.length ≤ 100 ∧ (3 : Int) = nb x ∧ (3 : Int) ≤ (x.length : Int) ∧ (3 + ((inb 10 n.natAbs).length : Int)) = 3 + ((dsOf x 3).length : Int) ∧ (3 + ((inb 10 n.natAbs).length : Int)) ≤ (x.length : Int) ∧ 1 ≤ (dsOf x 3).length ∧ (dsOf x 3).length ≤ 6 ∧ valOf (dsOf x 3) = n) ∧ ((Txt.slice x (some (3 + ((inb 10 n.natAbs).length : Int))) (some (3 + ((inb 10 n.natAbs).length : Int) + 1)) == Str.ofString ".") = false) ∧ (3 + ((inb 10 n.natAbs).length : Int) < (x.length : Int) → occ (Str.ofString "EeDd") (Txt.item x (3 + ((inb 10 n.natAbs).length : Int))) = true) ∧ (Txt.slice x (some (nb x)) (some (nb x + 1)) == Str.ofString "-") = false ∧ (Txt.slice x (some (nb x)) (some (nb x + 1)) == Str.ofString "+") = false := by
  have hl := vf_len hx
  have h2 := vf_tl ht
  have h6 := inb_le n.natAbs (by omega)
  have h1 : 1 ≤ (inb 10 n.natAbs).length := List.length_pos_iff.mpr (inb_ne _)
  refine ⟨⟨by omega, (vf_nbP hx).symm, by omega, by rw [vf_ds hx ht], by omega, by rw [vf_ds hx ht]; exact h1, by rw [vf_ds hx ht]; exact h6, by rw [vf_ds hx ht, val_inb _ (by omega)]; omega⟩, vf_dot hx ht rfl, vf_exp hx ht rfl, vf_sgP hx (by decide), vf_sgP hx (by decide)⟩
theorem val_pos1 {x : Str} {n : Int} {tl : List Nat} (hx : cd x = 32 :: 32 :: 32 :: (inb 10 n.natAbs ++ tl)) (ht : tl ∈ Tails) (h : 1 ≤ n) (hb : n ≤ 40000) :
    (x.length ≤ 100 ∧ (3 : Int) = nb x ∧ (3 : Int) ≤ (x.length : Int) ∧ (3 + ((inb 10 n.natAbs).length : Int)) = 3 + ((dsOf x 3).length : Int) ∧ (3 + ((inb 10 n.natAbs).length : Int)) ≤ (x.length : Int) ∧ 1 ≤ (dsOf x 3).length ∧ (dsOf x 3).length ≤ 6 ∧ valOf (dsOf x 3) = n ∧ 1 ≤ n ∧ n ≤ 65535 ∧ ((Txt.slice x (some (3 + ((inb 10 n.natAbs).length : Int))) (some (3 + ((inb 10 n.natAbs).length : Int) + 1)) == Str.ofString ".") = false) ∧ (3 + ((inb 10 n.natAbs).length : Int) < (x.length : Int) → occ (Str.ofString "EeDd") (Txt.item x (3 + ((inb 10 n.natAbs).length : Int))) = true) ∧ (Txt.slice x (some (nb x)) (some (nb x + 1)) == Str.ofString "-") = false ∧ (Txt.slice x (some (nb x)) (some (nb x + 1)) == Str.ofString "+") = false) := by
  obtain ⟨⟨a1, a2, a3, a4, a5, a6, a7, a8⟩, b1, b2, b3, b4⟩ := val_pos hx ht (by omega) hb
  exact ⟨a1, a2, a3, a4, a5, a6, a7, a8, h, Int.le_trans hb (by decide), b1, b2, b3, b4⟩
theorem val_zero {x : Str} {n : Int} {tl : List Nat} (hx : cd x = 32 :: 32 :: 32 :: (inb 10 n.natAbs ++ tl)) (ht : tl ∈ Tails) (h : n = 0) :
    (x.length ≤ 100 ∧ (3 : Int) = nb x ∧ (3 : Int) ≤ (x.length : Int) ∧ (3 + ((inb 10 n.natAbs).length : Int)) = 3 + ((dsOf x 3).length : Int) ∧ (3 + ((inb 10 n.natAbs).length : Int)) ≤ (x.length : Int) ∧ 1 ≤ (dsOf x 3).length ∧ (dsOf x 3).length ≤ 6 ∧ valOf (dsOf x 3) = n ∧ n = 0 ∧ ((Txt.slice x (some (3 + ((inb 10 n.natAbs).length : Int))) (some (3 + ((inb 10 n.natAbs).length : Int) + 1)) == Str.ofString ".") = false) ∧ (3 + ((inb 10 n.natAbs).length : Int) < (x.length : Int) → occ (Str.ofString "EeDd") (Txt.item x (3 + ((inb 10 n.natAbs).length : Int))) = true) ∧ (Txt.slice x (some (nb x)) (some (nb x + 1)) == Str.ofString "-") = false ∧ (Txt.slice x (some (nb x)) (some (nb x + 1)) == Str.ofString "+") = false) := by
  obtain ⟨⟨a1, a2, a3, a4, a5, a6, a7, a8⟩, b1, b2, b3, b4⟩ := val_pos hx ht (by omega) (by omega)
  exact ⟨a1, a2, a3, a4, a5, a6, a7, a8, h, b1, b2, b3, b4⟩
theorem told_fits (n : Int) : (St ((if n < 0 then 45 else 32) :: inb 10 n.natAbs)).length ≤ 1000 := by
  have := inbF_le 10 (by decide) 20 n.natAbs
  rw [St_len, List.length_cons]
  have h := inbF_len 10 20 n.natAbs []
  simp only [inb, List.length_nil] at h ⊢
  lia
theorem told_fits2 (n : Int) : (Str.ofString "  " ++ St ((if n < 0 then 45 else 32) :: inb 10 n.natAbs)).length ≤ 10000 := by
  have h := told_fits n
  show (St [32, 32] ++ St ((if n < 0 then 45 else 32) :: inb 10 n.natAbs)).length ≤ 10000
  rw [St_app, St_len, List.length_append]
  rw [St_len] at h
  simp only [List.length_cons, List.length_nil] at h ⊢
  lia
section
variable {prog : Program} {w : World} {A : Around} {E : Value → Shared → Prop} {s : Shared} {Q : Value → Shared → Prop} {h₀ : Heap} {L : Addr} {news : List (Addr × Obj)}
theorem tails_at {value slice : Expr} {l : Addr} {k : Int} {u t1 t2 t3 t4 t5 : Tok} {cc : Nat} (N : News h₀ L s.heap news) (hm : (l, W.listOf #[.str (Str.ofString "") t1, .str (Str.ofString "x") t2, .str (Str.ofString " 7") t3, .str (Str.ofString ",") t4, .str (Str.ofString "$") t5] cc) ∈ news)
    (h0 : 0 ≤ k) (h1 : k < 5) (h : ∀ y t, cd y ∈ Tails → y.length ≤ 10000 → Q (.str y t) s)
    (hs : subscripted slice false (.ref l) (.int k u) = operate [.ref l, .int k u] (getItem (.ref l) (.int k u)) := by with_unfolding_all rfl) : wpAny (model prog w) A (subscriptTail value slice (.ref l) (.int k u)) Q E s := by
  refine item_strsR (isList_of N hm) (ys := [Str.ofString "", Str.ofString "x", Str.ofString " 7", Str.ofString ",", Str.ofString "$"]) (.cons _ _ (.cons _ _ (.cons _ _ (.cons _ _ (.cons _ _ .nil))))) h0 (by simpa using h1) (by omega) (fun t => ?_) hs
  have hk : k = 0 ∨ k = 1 ∨ k = 2 ∨ k = 3 ∨ k = 4 := by lia
  rcases hk with rfl | rfl | rfl | rfl | rfl
  · exact h (Str.ofString "") _ (by decide) (by decide)
  · exact h (Str.ofString "x") _ (by decide) (by decide)
  · exact h (Str.ofString " 7") _ (by decide) (by decide)
  · exact h (Str.ofString ",") _ (by decide) (by decide)
  · exact h (Str.ofString "$") _ (by decide) (by decide)
end
theorem told_neg {n : Int} {y : Str} (h : n < 0) : cd (Str.ofString "  " ++ St ((if n < 0 then 45 else 32) :: inb 10 n.natAbs) ++ y) = 32 :: 32 :: 45 :: (inb 10 n.natAbs ++ cd y) := by rw [told_cd, if_pos h]
theorem told_pos {n : Int} {y : Str} (h : 0 ≤ n) : cd (Str.ofString "  " ++ St ((if n < 0 then 45 else 32) :: inb 10 n.natAbs) ++ y) = 32 :: 32 :: 32 :: (inb 10 n.natAbs ++ cd y) := by rw [told_cd, if_neg (by omega)]
end Mine
end
section
open PySem.Spec
namespace Mine
open PyProof.Rows.LCg (fr_but news_but)
noncomputable def ExG (P : Heap → Prop) : Prop := ∃ h, P h
section
variable {prog : Program} {w : World} {A : Around} {E : Value → Shared → Prop} {s : Shared} {env : Env} {Q : Flow → Shared → Prop}
theorem For_turned {x : Str} {px pos : Pos} {iter : Expr} {body : List Stmt} (hx : env.kindOf x = some .local)
    (hp : (env.scope.kind == .class || (env.scope.kind == .module && env.locals != env.globals)) = false)
    (h : wpAny (model prog w) A (eval iter env) (fun xv s₁ => ExG fun h₀ => wpAny (model prog w) A (pyIter xv) (fun it s₂ => LoopAtV prog w A h₀ env x body Q E it s₂) E s₁) E s)
    (hs : ∀ x, foldedSetIterable iter env x = pure x := by intro _; rfl)
    (hE : PassesOwn (model prog w) A env E := by passes_own) :
    wpAny (model prog w) A (exec (.For (.Name x px) iter body [] pos) env) Q E s := by
  refine wpAny_For (wpAny_mono h (fun xv s₁ h₁ => ?_) fun _ _ e => e) hs
  first | (refine and2 h₁ ?_; clear h₁; intro h₀ h₁) | obtain ⟨h₀, h₁⟩ := h₁
  refine wpAny_mono h₁ (fun it s₂ h₂ => ?_) fun _ _ e => e
  refine hideG ?_
  intro GG
  obtain ⟨I, fp, wr, n, P, St, m, news, J, rfl, W, hLf, hwr, hnw, hst, F, N, h0, step, hQ⟩ := h₂
  k_unfold
  exact codeAny_forLoop_frV (R := fun r s' => match r with | .ok f => Q f s' | .error e => cameBackBy (model prog w) A env E e s') W hx hp hLf hwr hnw hst F N J h0 (by intros; exact wpAny_passesOwn hE (by apply step <;> assumption)) hQ
noncomputable def TurnEnd (L : Addr) (J : Heap → (Str → Option Value) → List (Addr × Obj) → Prop) (I : Addr) (oI : Obj) (s₁ : Shared) (Q : Flow → Shared → Prop) (f : Flow) (s₃ : Shared) : Prop :=
  match f with
  | .ret v => Q (.ret v) s₃
  | .brk => False
  | _ => ∃ g' m' news' h' tk', s₃ = { s₁ with heap := h', toks := tk' } ∧ J g' m' news' ∧ Fr g' L h' m' ∧ News g' L h' ((I, oI) :: news') ∧ ∀ p ∈ news', p.1 ≠ I
theorem TurnEnd.next {L : Addr} {J : Heap → (Str → Option Value) → List (Addr × Obj) → Prop} {I : Addr} {oI : Obj} {s₁ : Shared} {g : Heap} {h' : Heap} {tk : Nat} {m' : Str → Option Value} {all news' : List (Addr × Obj)} (F : Fr g L h' m') (N : News g L h' all)
    (sub : ∀ p ∈ (I, oI) :: news', p ∈ all) (off : ∀ p ∈ news', p.1 ≠ I) (j : J g m' news') : TurnEnd L J I oI s₁ Q .next { s₁ with heap := h', toks := tk } := ⟨g, m', news', h', tk, rfl, j, F, kst_newsOf N sub, off⟩
inductive ForT (prog : Program) (w : World) (A : Around) (env : Env) (target : Expr) (body : List Stmt) (Q : Flow → Shared → Prop) (E : Value → Shared → Prop) : Value → Shared → Prop
  | mk {s₁ : Shared} {t : Addr} {items : Array Value} (J : Nat → Heap → (Str → Option Value) → List (Addr × Obj) → Prop) {g : Heap} {m : Str → Option Value} {news : List (Addr × Obj)} {k : Nat}
    (hh : A.handled = none) (F : Fr g env.locals s₁.heap m) (N : News g env.locals s₁.heap news) (hm : (t, ({ cls := .type "tuple", data := .seq items k } : Obj)) ∈ news) (h0 : J 0 g m news)
    (hT : ∀ i g m news, J i g m news → (t, ({ cls := .type "tuple", data := .seq items k } : Obj)) ∈ news)
    (turn : ∀ i v g m news h tk I oI, items[i]? = some v → J i g m news → Fr g env.locals h m → News g env.locals h ((I, oI) :: news) → (∀ p ∈ news, p.1 ≠ I) →
      wpAny (model prog w) A (assign target env v) (fun _ s₂ => wpAny (model prog w) A (execs body env) (TurnEnd env.locals (J (i + 1)) I oI { s₁ with heap := h, toks := tk } Q) E s₂) E { s₁ with heap := h, toks := tk })
    (done : ∀ g m news h tk, J items.size g m news → Fr g env.locals h m → News g env.locals h news → Q .next { s₁ with heap := h, toks := tk }) : ForT prog w A env target body Q E (.ref t) s₁
inductive TLoop (L t I : Addr) (n : Nat) (J : Nat → Heap → (Str → Option Value) → List (Addr × Obj) → Prop) (s₁ : Shared) : Nat → Shared → Prop
  | mk (g h : Heap) (tk i : Nat) (m : Str → Option Value) (news : List (Addr × Obj)) (oI : Obj) (hi : i ≤ n) (hit : h.IsTupleIter I t i) (F : Fr g L h m) (N : News g L h ((I, oI) :: news)) (off : ∀ p ∈ news, p.1 ≠ I) (j : J i g m news) :
    TLoop L t I n J s₁ (n + 1 - i) { s₁ with heap := h, toks := tk }
theorem for_tuple {target iter : Expr} {body : List Stmt} {pos : Pos} (h : wpAny (model prog w) A (eval iter env) (ForT prog w A env target body Q E) E s)
    (hs : ∀ x, foldedSetIterable iter env x = pure x := by intro _; rfl)
    (hE : PassesOwn (model prog w) A env E := by passes_own) :
    wpAny (model prog w) A (exec (.For target iter body [] pos) env) Q E s := by
  refine wpAny_For (wpAny_mono h (fun xv s₁ h₁ => ?_) fun _ _ e => e) hs
  obtain @⟨_, t, items, J, g, m, news, k, hh, F, N, _, h0, hT, turn, done⟩ := h₁
  have at_t : ∀ {g h : Heap} {m : Str → Option Value} {news : List (Addr × Obj)} {i : Nat}, J i g m news → News g env.locals h news → h.IsTuple t items := fun j N => ⟨_, (N _ (hT _ _ _ _ j)).1, rfl, _, rfl⟩
  have ht := at_t h0 N
  have htl : t < s₁.heap.objs.size := by obtain ⟨_, e, _⟩ := ht; exact Heap.lt_size e
  have up : ∀ b o, s₁.heap.get? b = some o → (s₁.heap.push { cls := .type "tuple_iterator", data := .fields #[.ref t, .int 0 0] }).get? b = some o := fun b o e => Heap.get?_push_of_some _ e
  have W := Walks.tuple (prog := prog) (w := w) hh s₁.heap.objs.size t (Nat.ne_of_lt htl) items
  refine wpAny_pyIter_tuple ht ?_
  refine codeAny_forLoop_any (R := fun r s' => match r with | .ok f => Q f s' | .error e => cameBackBy (model prog w) A env E e s')
    (TLoop env.locals t s₁.heap.objs.size items.size J s₁) ?_ (items.size + 1)
    (.mk g _ s₁.toks 0 m news { cls := .type "tuple_iterator", data := .fields #[.ref t, .int 0 0] } (Nat.zero_le _) ⟨_, Heap.get?_push_size _ rfl, rfl, rfl⟩ (F.keeps up) (fun p hp => ?_) (fun p hp => Nat.ne_of_lt (Heap.lt_size (N p hp).1)) h0)
  · rintro _ _ ⟨g, h, tk, i, m, news, oI, hi, hit, F, N, off, j⟩
    have NI := N _ (.head _)
    have N' : News g env.locals h news := fun p hp => N p (.tail _ hp)
    have ht' := at_t j N'
    by_cases hlt : i < items.size
    · refine W.item i _ _ _ hlt ⟨hit, ht'⟩ fun v h₂ tk₂ hPv hst₂ hk₂ => ?_
      have F₂ := fr_but F hk₂ (Ne.symm NI.2.1) NI.2.2
      have N₂ := news_but N' hk₂ off
      obtain ⟨o2, e2, r2⟩ := hst₂.1
      have N₃ : News g env.locals h₂ ((s₁.heap.objs.size, o2) :: news) := fun p hp => by
        rcases List.mem_cons.mp hp with rfl | hp
        · exact ⟨e2, NI.2⟩
        · exact N₂ p hp
      refine letGo_tupleiter hst₂.1 ?_
      refine wpAny_mono (wpAny_passesOwn hE (turn i v g m news h₂ tk₂ _ o2 hPv j F₂ N₃ off)) (fun _ s₂ h₃ => wpAny_mono (wpAny_passesOwn hE h₃) (fun f s₃ h₄ => ?_) fun _ _ e => e) fun _ _ e => e
      have go : (∃ g' m' news' h' tk', s₃ = { s₁ with heap := h', toks := tk' } ∧ J (i + 1) g' m' news' ∧ Fr g' env.locals h' m' ∧ News g' env.locals h' ((s₁.heap.objs.size, o2) :: news') ∧ ∀ p ∈ news', p.1 ≠ s₁.heap.objs.size) →
          ∃ m_1, m_1 < items.size + 1 - i ∧ TLoop env.locals t s₁.heap.objs.size items.size J s₁ m_1 s₃ := by
        rintro ⟨g', m', news', h', tk', rfl, j', F', N', off'⟩
        exact ⟨items.size + 1 - (i + 1), by omega, .mk g' h' tk' (i + 1) m' news' o2 hlt ⟨o2, (N' _ (.head _)).1, r2⟩ F' N' off' j'⟩
      cases f with
      | ret v => exact h₄
      | brk => exact h₄.elim
      | cont => exact go h₄
      | next => exact go h₄
    · obtain rfl : i = items.size := by omega
      refine W.done _ _ _ ⟨hit, ht'⟩ fun h₂ tk₂ hk₂ => wpAny_execs_nil ?_
      exact done g m news h₂ tk₂ j (fr_but F hk₂ (Ne.symm NI.2.1) NI.2.2) (news_but N' hk₂ off)
  · rcases List.mem_cons.mp hp with rfl | hp
    · refine ⟨Heap.get?_push_size _ rfl, Ne.symm (Nat.ne_of_lt F.ns.lt), ?_⟩
      cases e : g.get? s₁.heap.objs.size with
      | none => rfl
      | some o => exact absurd (Heap.lt_size (F.keep _ _ e)) (Nat.lt_irrefl _)
    · exact ⟨up _ _ (N p hp).1, (N p hp).2⟩
end
end Mine
end
section
open PySem.Spec
namespace Mine
theorem hex_turn {b m : Nat} (hb : 2 ≤ b) (hb2 : b ≤ 16) (hm : m ≤ 65535) {pre post : List Int} {n : Nat} (hc : KStt.codes (St (inb b m)) = pre ++ (n : Int) :: post) {a : Int} (ha : a = amtV b 0 (pre.map Int.toNat)) :
    HexC n ∧ 0 ≤ a ∧ a ≤ 65535 ∧ a * (b : Int) + (digv n : Int) = amtV b 0 ((pre ++ [(n : Int)]).map Int.toNat) ∧ 0 ≤ a * (b : Int) + (digv n : Int) ∧ a * (b : Int) + (digv n : Int) ≤ 65535 := by
  have hmem : n ∈ inb b m := codes_mem hc
  obtain ⟨k, hk, rfl⟩ := inb_all b m (by omega) n hmem
  have e1 : a * (b : Int) + (digv (hexd k) : Int) = amtV b 0 ((pre ++ [((hexd k : Nat) : Int)]).map Int.toNat) := by
    rw [List.map_append, List.map_cons, List.map_nil, Int.toNat_natCast, amtV_snoc, ha]
  have e2 : inb b m = ((pre ++ [((hexd k : Nat) : Int)]).map Int.toNat) ++ post.map Int.toNat := by
    have := codes_nat (St (inb b m))
    rw [hc] at this
    rw [← List.map_append, List.append_assoc]
    exact this.symm
  have hge : 0 ≤ a := by rw [ha]; exact amtV_nonneg b (by omega) _
  have hle : a * (b : Int) + (digv (hexd k) : Int) ≤ 65535 := by
    have := amt_part b (by omega) ((pre ++ [((hexd k : Nat) : Int)]).map Int.toNat) (post.map Int.toNat)
    rw [← e2, amt_inb b m hb hb2 hm, ← e1] at this
    omega
  have h3 : a * 1 ≤ a * (b : Int) := Int.mul_le_mul_of_nonneg_left (by omega) hge
  have h4 : 0 ≤ a * (b : Int) := by omega
  exact ⟨⟨k, by omega, rfl⟩, hge, by omega, e1, by omega, hle⟩
theorem hex_done {b : Nat} (hb : 2 ≤ b) (hb2 : b ≤ 16) {n a : Int} (ha : a = amtV b 0 ((KStt.codes (St (inb b (n % 65536).toNat))).map Int.toNat)) : a = n.fmod 65536 := by
  rw [ha, codes_nat, amt_inb b _ hb hb2 (by omega), Int.fmod_eq_emod_of_nonneg _ (by decide)]
  lia
noncomputable def Jt (P : Heap → Prop) (st : List Str) (m₀ : Str → Option Value) (base : List (Addr × Obj)) : Nat → Heap → (Str → Option Value) → List (Addr × Obj) → Prop :=
  fun _ g m news => news = base ∧ (∃ u : Str → Option Value, m = fun z => if st.contains z = true then u z else m₀ z) ∧ P g
theorem Jt.use {P : Heap → Prop} {st : List Str} {m₀ m : Str → Option Value} {base news : List (Addr × Obj)} {i : Nat} {g : Heap} {G : (Str → Option Value) → List (Addr × Obj) → Prop} (j : Jt P st m₀ base i g m news) (k : ∀ u : Str → Option Value, P g → G (fun z => if st.contains z = true then u z else m₀ z) base) : G m news := by
  obtain ⟨rfl, ⟨u, rfl⟩, p⟩ := j; exact k u p
theorem Jt.mk {P : Heap → Prop} {st : List Str} {m₀ m' : Str → Option Value} {base : List (Addr × Obj)} {i : Nat} {g : Heap} (h : ∀ z, st.contains z = false → m' z = m₀ z) (p : P g) : Jt P st m₀ base i g m' base := by
  refine ⟨rfl, ⟨m', funext fun z => ?_⟩, p⟩
  cases e : st.contains z with
  | true => rfl
  | false => exact h z e
end Mine
end
section
open PySem.Spec
namespace Mine
theorem digch {k : Nat} (h : k < 10) : (Nat.digitChar k).toNat = hexd k := by
  exact (by decide +kernel : ∀ k, k < 10 → (Nat.digitChar k).toNat = hexd k) k h
theorem inbF_zero (b : Nat) : ∀ (g : Nat) (l : List Nat), l ≠ [] → inbF b g 0 l = l
  | 0, _, _ => rfl
  | g + 1, l, h => by
    unfold inbF
    rw [if_neg]
    rintro (q | q)
    · omega
    · exact h q
theorem digs_inb : ∀ (f n : Nat) (acc : List Char) (g : Nat), n < f → n < 10 ^ g → 1 ≤ g → (0 < n ∨ acc = []) → (Nat.toDigitsCore 10 f n acc).map Char.toNat = inbF 10 g n (acc.map Char.toNat)
  | 0, n, acc, g, h, _, _, _ => absurd h (Nat.not_lt_zero _)
  | f + 1, n, acc, 0, _, _, h, _ => absurd h (by decide)
  | f + 1, n, acc, g + 1, hf, hg, _, hn => by
    have hd := digch (k := n % 10) (Nat.mod_lt _ (by decide))
    unfold Nat.toDigitsCore inbF
    rw [if_pos (show 0 < n ∨ acc.map Char.toNat = [] from hn.imp id fun h => by rw [h]; rfl)]
    (try simp only)
    split
    · next h0 =>
      rw [h0, inbF_zero 10 g _ (by simp), List.map_cons, hd]
    · next h0 =>
      have h1 : n / 10 < 10 ^ g := by rw [Nat.pow_succ] at hg; exact Nat.div_lt_of_lt_mul (by rwa [Nat.mul_comm] at hg)
      rw [digs_inb f (n / 10) _ g (by omega) h1 (by rcases Nat.eq_zero_or_pos g with e | e; · subst e; rw [Nat.pow_zero] at h1; lia
                                                    · exact e) (.inl (by omega)), List.map_cons, hd]
theorem str_inb {k : Int} (h0 : 0 ≤ k) (h1 : k ≤ 65535) : Str.ofString (toString k) = St (inb 10 k.toNat) := by
  obtain ⟨n, rfl⟩ := Int.eq_ofNat_of_zero_le h0
  rw [Str.ofString_eq_toList]
  have e : (toString ((n : Nat) : Int)).toList = Nat.toDigits 10 n := by
    show (String.ofList (Nat.toDigits 10 n)).toList = _
    exact String.toList_ofList
  rw [e, Int.toNat_natCast]
  show St ((Nat.toDigitsCore 10 (n + 1) n []).map Char.toNat) = _
  rw [digs_inb (n + 1) n [] 20 (Nat.lt_succ_self _) (by omega) (by decide) (.inr rfl)]
  rfl
theorem str_fits {n : Int} (h : -40000 ≤ n ∧ n ≤ 40000) : (Str.ofString (toString (if n < 0 then -n else n))).length ≤ 10000 := by
  rw [str_inb (by split <;> omega) (by split <;> omega)]
  exact Nat.le_trans (inb_len 10 _) (by decide)
theorem law_str {n : Int} (h : -40000 ≤ n ∧ n ≤ 40000) : St ((if n < 0 then 45 else 32) :: inb 10 n.natAbs) = (if n < 0 then Str.ofString "-" else Str.ofString " ") ++ Str.ofString (toString (if n < 0 then -n else n)) := by
  rw [str_inb (by split <;> omega) (by split <;> omega)]
  by_cases h : n < 0
  · rw [← str_neg h]; simp only [if_pos h]
  · rw [← str_pos h]; simp only [if_neg h]
end Mine
end
section
namespace Mine
theorem OK8.gdK8 : True := trivial
open OK8
theorem wd_K8_1 : True := by (k_with "execs cons" => (k_here; (with_reducible show wpAny _ _ (execs (_ :: _) _) _ _ _); (try k_made); (with_reducible rename Fr _ _ _ _ => kFq); (with_reducible rename News _ _ _ _ => kNq); (refine execsH kFq kNq ?_); intro _ _ _ _ _ _ _ _; (try k_sweep))); (k_with "eval List" => (first | (k_here; k_compRoot) | refine ListF ?_)); (k_with "eval Tuple" => (first | (k_here; k_compRoot) | refine TupleF ?_)); (k_with "spliced" => (k_here; (refine args_consG ?_); intro _)); (k_with "spliced" => (k_here; (with_reducible refine args_nil ?_); (try dsimp only [List.cons_append, List.nil_append]))); trivial
theorem wd_K8_2 : True := by (k_with "call type:range" => ((fail_if_success (fail_if_success (have : True := gdK8))); ((k_here; k_dflt (first | ((refine' range1N ?_ ?_ ?_; rotate_right 3; (rotate_left 1; (k_asm); rotate_right 1); (k_asm))) | ((refine' range2N ?_ ?_ ?_; rotate_right 3; (rotate_left 1; (k_asm); rotate_right 1); (k_asm)))); intro rR hR xR uR vR tkR fR nR)))); (k_with "exec Assign cons ListComp" => ((fail_if_success (fail_if_success (have : True := gdK8))); ((k_here; k_dflt (refine' comp_invA ?_ ?_ ?_ ?_ ?_ ?_ ?_ ?_ ?_ ?_ ?_ ?_; rotate_right 12; (k_asm); (rfl); (with_unfolding_all rfl); (with_unfolding_all rfl); (decide); (rfl); (decide); (rfl); (rfl); (rfl); (rotate_left 1; (focus (((intro _; rfl)); done)); rotate_right 1)))))); (k_with "eval ListComp" => ((fail_if_success (fail_if_success (have : True := gdK8))); ((k_here; k_dflt (refine' comp_inv ?_ ?_ ?_ ?_ ?_ ?_ ?_ ?_; rotate_right 8; (k_asm); (with_unfolding_all rfl); (decide); (rfl); (decide); (rfl); (rotate_left 1; (focus (((intro _; rfl)); done)); rotate_right 1)))))); (k_with "InvEndN" => ((fail_if_success (fail_if_success (have : True := gdK8))); ((k_here; k_dflt (refine Stop.go ?_))))); (k_with "eval IfExp" => ((fail_if_success (fail_if_success (have : True := gdK8))); ((k_here; (fail_if_success (with_reducible show wpAny _ _ _ (JoinS _ _ _ _ _ _) _ _)); (fail_if_success (with_reducible show wpAny _ _ _ (JoinV _ _ _ _ _ _) _ _)); k_dflt (refine Stop.go ?_))))); (k_with "CompEnd" => ((fail_if_success (fail_if_success (have : True := gdK8))); ((k_here; k_dflt (refine Stop.go ?_))))); (k_with "compareOp NotEq ref ref" => ((fail_if_success (fail_if_success (have : True := gdK8))); ((k_here; k_dflt (first | ((refine' ne_ints_yes ?_ ?_ ?_ ?_ ?_ ?_ ?_; rotate_right 7; (k_asm); (focus ((k_mem); done)); (rotate_left 1; (focus ((k_mem); done)); rotate_right 1); (with_reducible assumption); (rotate_left 1; (focus ((first | with_reducible assumption | omega); done)); rotate_right 1); (ktr_units))) | ((refine' ne_ints_no ?_ ?_ ?_ ?_ ?_ ?_ ?_; rotate_right 7; (k_asm); (focus ((k_mem); done)); (rotate_left 1; (focus ((k_mem); done)); rotate_right 1); (with_reducible assumption); (rotate_left 1; (focus ((first | with_reducible assumption | omega); done)); rotate_right 1); (ktr_units)))))))); (k_with "compareOp Eq str str" => ((fail_if_success (fail_if_success (have : True := gdK8))); ((k_here; k_dflt (refine' eqS_yes ?_ ?_; rotate_right 2; (focus ((first | with_reducible rfl | with_reducible assumption | exact (mul_ch _ _).symm | exact law_str (by omega) | omega); done))))))); (k_with "compareOp NotEq str str" => ((fail_if_success (fail_if_success (have : True := gdK8))); ((k_here; k_dflt (refine' neS_no ?_ ?_; rotate_right 2; (focus ((first | with_reducible rfl | with_reducible assumption | exact (mul_ch _ _).symm | exact law_str (by omega) | omega); done))))))); (k_with "compareOp Eq int int" => ((fail_if_success (fail_if_success (have : True := gdK8))); ((k_here; k_dflt (refine' eqI_yes ?_ ?_; rotate_right 2; (focus ((first | with_reducible rfl | with_reducible assumption | exact (mul_ch _ _).symm | exact law_str (by omega) | omega); done))))))); (k_with "compareOp NotEq int int" => ((fail_if_success (fail_if_success (have : True := gdK8))); ((k_here; k_dflt (refine' neI_no ?_ ?_; rotate_right 2; (focus ((first | with_reducible rfl | with_reducible assumption | exact (mul_ch _ _).symm | exact law_str (by omega) | omega); done))))))); (k_with "call builtin:str.index" => ((fail_if_success (fail_if_success (have : True := gdK8))); ((k_here; k_dflt (refine' index_hex ?_ ?_ ?_; rotate_right 3; (rfl); (with_reducible assumption)); intro tix)))); (k_with "binaryOp Mult str int" => ((fail_if_success (fail_if_success (have : True := gdK8))); ((k_here; k_dflt (refine' SB.mul (mulOk_of 16 1048576 ?_ ?_ ?_ ?_ ?_) ?_; rotate_right 6; (exact Nat.le_of_ble_eq_true rfl); (omega); (omega); (decide); (decide)); intro _ _)))); (k_with "binaryOp Add str str" => ((fail_if_success (fail_if_success (have : True := gdK8))); ((k_here; (with_reducible show wpAny _ _ (binaryOp Operator.Add (Value.str _ _) (Value.str _ _)) _ _ _); (refine SB.add (hsz := add_fits (by first | exact Nat.le_of_ble_eq_true rfl | with_reducible assumption | omega) (by first | exact Nat.le_of_ble_eq_true rfl | with_reducible assumption | omega)) ?_); intro _ _)))); (k_with "exec For Tuple Tuple cons nil" => ((fail_if_success (fail_if_success (have : True := gdK8))); ((k_here; k_dflt (refine Stop.go ?_))))); (k_with "exec For Name Call cons nil" => ((fail_if_success (fail_if_success (have : True := gdK8))); ((k_here; (with_unfolding_all refine' For_turned ?_ ?_ ?_; rotate_right 3; (exact rfl); (exact rfl); k_whole))))); (k_with "pyIter str" => ((fail_if_success (fail_if_success (have : True := gdK8))); ((k_here; k_dflt (refine Stop.go ?_))))); (k_with "subscriptTail" => ((fail_if_success (fail_if_success (have : True := gdK8))); ((k_here; (with_reducible show wpAny _ _ (subscriptTail _ _ (Value.ref _) (Value.int (Int.fmod _ _) _)) _ _ _); k_dflt (refine' tails_at ?_ ?_ ?_ ?_ ?_; rotate_right 5; (k_asm); (focus ((k_mem); done)); (omega); (omega)); intro yT tT hT hTl)))); trivial
theorem c_codes {w : World} {mean : ExcName → Option Value} {mg mb : Str → Option Value} {pd cl : Addr} {o : Obj} {vs : List Value} {ns : List Int} {cc : Nat} {c : Int}  (hne : cl ≠ pd) (hI : IntsAre vs ns) (hns : ns.length ≤ 64) (hP : PoolIs w o cl c) (hc0 : 0 ≤ c) (hc1 : c ≤ 100)  :
   Cl w mean mg mb 422 150 [(pd, o), (cl, W.listOf vs.toArray cc)] [.ref pd] := by
  refine shed ?_ fun _ n h => ?_
  focus (
  dsimp only [Cl]
  intro dp un gd cn cs a ccd cl' A₀ base h₀ L m s Q E B F X N T hk XB TB hd hu hret
  refine wpAny_call ?_
  k_dflt (refine' code_defE0C B F X N T ?kA ?hf ?hke ?k6 ?k7 ?k8 ?k9 ?kB ?kD ?_ ?c2 ?c3 ?c4; (case kA => exact rfl); (case hf => exact rfl); (case hke => exact hk); (case k6 => k_is); (case k7 => k_is); (case k8 => ktr_room); (case k9 => exact BindsTo.of_eq rfl); (case kB => exact rfl); (case kD => decide +kernel); (case c2 => exact rfl); (case c3 => exact rfl); (case c4 => exact rfl); k_whole)
  intro g' L' h' tk' cells' FG' F' N' Y' B' X' T' D' l1
  (try k_lt l1)
  cases Y'
  (try simp only [List.cons_append, List.nil_append] at N')
  (try dsimp only)
  (try k_lift B')
  (try k_fold)
  k_steps
  k_extra "So"
  k_dflt (refine' c_draw ?U ?hm ?hne ?hI ?hns ?hP ?c0 ?c1 ?k0 ?k1 _ _ _ _ _ _ _ _ _ _ _ _ _ _ _ _ _ ?kB ?kF ?kX ?kN ?kT ?kk trivial ?hd ?hu ?_; (case kN => k_asm); k_extra "cF"; (case U => k_updF); (case hP => assumption); (case hm => k_mem); (case hne => first | assumption | k_ne); (case hI => assumption); (case hns => assumption); (case c0 => omega); (case c1 => omega); (case k0 => omega); (case k1 => omega); k_extra "cH")
  intro r t_r o_r h_r k_r r_0 r_1 P_r F_r N_r
  (try dsimp only at N_r)
  k_steps
  k_extra "So"
  k_dflt (refine' c_draw ?U ?hm ?hne ?hI ?hns ?hP ?c0 ?c1 ?k0 ?k1 _ _ _ _ _ _ _ _ _ _ _ _ _ _ _ _ _ ?kB ?kF ?kX ?kN ?kT ?kk trivial ?hd ?hu ?_; (case kN => k_asm); k_extra "cF"; (case U => k_updF); (case hP => assumption); (case hm => k_mem); (case hne => first | assumption | k_ne); (case hI => assumption); (case hns => assumption); (case c0 => omega); (case c1 => omega); (case k0 => omega); (case k1 => omega); k_extra "cH")
  intro q t_q o_q h_q k_q q_0 q_1 P_q F_q N_q
  (try dsimp only at N_q)
  k_steps
  k_extra "So"
  k_dflt (refine' c_draw ?U ?hm ?hne ?hI ?hns ?hP ?c0 ?c1 ?k0 ?k1 _ _ _ _ _ _ _ _ _ _ _ _ _ _ _ _ _ ?kB ?kF ?kX ?kN ?kT ?kk trivial ?hd ?hu ?_; (case kN => k_asm); k_extra "cF"; (case U => k_updF); (case hP => assumption); (case hm => k_mem); (case hne => first | assumption | k_ne); (case hI => assumption); (case hns => assumption); (case c0 => omega); (case c1 => omega); (case k0 => omega); (case k1 => omega); k_extra "cH")
  intro z t_z o_z h_z k_z z_0 z_1 P_z F_z N_z
  (try dsimp only at N_z)
  k_steps
  k_extra "So"
  k_dflt (refine' (h_chr_v ?qm ?q0) _ _ _ _ _ _ _ _ _ _ _ _ _ _ _ _ _ _ ?kB ?kF ?kX ?kN ?kT ?kk ?XB ?TB ?kD ?T0 trivial ?hd ?hu ?_; (case kN => k_asm); (case qm => k_mem); (case q0 => omega); k_extra "cF"; k_extra "cX"; k_extra "cH")
  intro tH1 gH1 hH1 kH1 T1 F1 N1 B1 X1 P1 D1
  (try k_lift B1)
  (try dsimp only)
  k_steps
  k_extra "So"
  k_dflt (refine' (h_asc ?qm ) _ _ _ _ _ _ _ _ _ _ _ _ _ _ _ _ _ _ ?kB ?kF ?kX ?kN ?kT ?kk ?XB ?TB ?kD ?T0 trivial ?hd ?hu ?_; (case kN => k_asm); (case qm => k_mem); k_extra "cF"; k_extra "cX"; k_extra "cH")
  intro tH2 gH2 hH2 kH2 T2 F2 N2 B2 X2 P2 D2
  (try k_lift B2)
  (try dsimp only)
  k_steps
  k_extra "So"
  k_dflt (refine' (h_asc_x ?qm ) _ _ _ _ _ _ _ _ _ _ _ _ _ _ _ _ _ _ ?kB ?kF ?kX ?kN ?kT ?kk ?XB ?TB ?kD ?T0 trivial ?hd ?hu ?_; (case kN => k_asm); (case qm => k_mem); k_extra "cF"; k_extra "cX"; k_extra "cH")
  intro tH3 gH3 hH3 kH3 T3 F3 N3 B3 X3 P3 D3
  (try k_lift B3)
  (try dsimp only)
  k_steps
  k_extra "So"
  k_dflt (refine' (h_string_i ?qm ?q0) _ _ _ _ _ _ _ _ _ _ _ _ _ _ _ _ _ _ ?kB ?kF ?kX ?kN ?kT ?kk ?XB ?TB ?kD ?T0 trivial ?hd ?hu ?_; (case kN => k_asm); (case qm => k_mem); (case q0 => omega); k_extra "cF"; k_extra "cX"; k_extra "cH")
  intro tH4 gH4 hH4 kH4 T4 F4 N4 B4 X4 P4 D4
  (try k_lift B4)
  (try dsimp only)
  k_steps
  k_extra "So"
  k_dflt (refine' (h_space ?qm ?q0) _ _ _ _ _ _ _ _ _ _ _ _ _ _ _ _ _ _ ?kB ?kF ?kX ?kN ?kT ?kk ?XB ?TB ?kD ?T0 trivial ?hd ?hu ?_; (case kN => k_asm); (case qm => k_mem); (case q0 => omega); k_extra "cF"; k_extra "cX"; k_extra "cH")
  intro tH5 gH5 hH5 kH5 T5 F5 N5 B5 X5 P5 D5
  (try k_lift B5)
  (try dsimp only)
  k_steps
  k_extra "So"
  k_dflt (refine' (h_string_s ?qm ?q0 ?q1) _ _ _ _ _ _ _ _ _ _ _ _ _ _ _ _ _ _ ?kB ?kF ?kX ?kN ?kT ?kk ?XB ?TB ?kD ?T0 trivial ?hd ?hu ?_; (case kN => k_asm); (case qm => k_mem); (case q0 => omega); (case q1 => rfl); k_extra "cF"; k_extra "cX"; k_extra "cH")
  intro tH6 gH6 hH6 kH6 T6 F6 N6 B6 X6 P6 D6
  (try k_lift B6)
  (try dsimp only)
  k_steps
  k_extra "So"
  k_dflt (refine' (h_chr_x ?qm ?q0 ?q1) _ _ _ _ _ _ _ _ _ _ _ _ _ _ _ _ _ _ ?kB ?kF ?kX ?kN ?kT ?kk ?XB ?TB ?kD ?T0 trivial ?hd ?hu ?_; (case kN => k_asm); (case qm => k_mem); (case q0 => omega); (case q1 => omega); k_extra "cF"; k_extra "cX"; k_extra "cH")
  intro tH7 gH7 hH7 kH7 T7 F7 N7 B7 X7 P7 D7
  (try k_lift B7)
  (try dsimp only)
  k_steps
  k_extra "So"
  k_here
  refine for_tuple ?_
  k_steps
  (rename Fr _ L' _ _ => hF); (rename News _ L' _ _ => hN)
  refine ForT.mk (Jt (fun g => KtsTurn _ _ g ∧ Below _ _ _ g ∧ Frag.In _ g ∧ Top _ _ _ _ _ g ∧ KtsDicts _ g) [Str.ofString "work", Str.ofString "base", Str.ofString "amount", Str.ofString "sign"] _ _) rfl hF hN (.head _) (Jt.mk (fun _ _ => rfl) ⟨T7, B7, X7, P7, D7⟩) ?jt ?jturn ?jdone
  case jt => rintro i g m news ⟨rfl, _⟩; k_mem
  case jturn =>
    intro i v g m news h tk I oI hv hJ; apply Jt.use hJ; clear hJ; intro u hJ; refine and5 hJ ?_; clear hJ; intro TT TB TX TP TD fF fN hoff
    rcases i with _ | _ | i
    · obtain rfl := (Option.some.inj (show some (Value.ref _) = some v from hv))
      k_steps
      k_extra "So"
      k_dflt (refine' (h_hex_v ?qm ?q0) _ _ _ _ _ _ _ _ _ _ _ _ _ _ _ _ _ _ ?kB ?kF ?kX ?kN ?kT ?kk ?XB ?TB ?kD ?T0 trivial ?hd ?hu ?_; (case kN => k_asm); (case qm => k_mem); (case q0 => omega); k_extra "cF"; k_extra "cX"; k_extra "cH")
      intro tH8 gH8 hH8 kH8 T8 F8 N8 B8 X8 P8 D8
      (try k_lift B8)
      (try dsimp only)
      k_steps
      refine ⟨gH8, ?_⟩
      k_steps
      k_extra "So"
      k_here
      (rename Fr _ L' _ _ => hF); (rename News _ L' _ _ => hN)
      k_dflt (refine' KStt.kst_text (σ := Int × Tok) (fun _ => _) (fun c => [(Str.ofString "amount", .int c.1 c.2)]) (fun c => 0 ≤ c.1 ∧ c.1 ≤ 65535) [] (fun pre c => c.1 = amtV 16 0 (pre.map Int.toNat)) (0, _) rfl hF hN ⟨Int.le_refl 0, (by decide : (0 : Int) ≤ 65535)⟩ ?kh8 rfl ?ka8 ?kb8)
      case kh8 => kst_all
      case ka8 =>
        refine pr2 ?_; intro a ta pre post n t u h tk own hcodes hoff hfa hQ F2 N2
        dsimp only at hfa hQ F2 N2
        obtain ⟨hx, h0, h1, e1, h2, h3⟩ := hex_turn (b := 16) (by decide) (by decide) (by omega) hcodes hQ
        k_steps
        k_extra "So"
        (rename Fr _ L' _ _ => fE); (rename News _ L' _ _ => nE)
        exact kst_end (_, _) fE nE (fun p hp => List.mem_append_left own hp) (fun p hp => List.mem_append_right _ hp) rfl ⟨h2, h3⟩ (by kst_all) (by intro z h1 h2 h3; have h2' := h2 _ (.head _); simp +zetaDelta [kstB, h1, h2']) e1
      case kb8 =>
        refine pr2 ?_; intro a ta u h tk hfa hQ F2 N2
        dsimp only at hfa hQ F2 N2
        have hfin : a = (z - 32768).fmod 65536 := hex_done (b := 16) (by decide) (by decide) hQ
        k_steps
        (rename Fr _ L' _ _ => fE); (rename News _ L' _ _ => nE)
        refine TurnEnd.next fE nE ?_ hoff (Jt.mk ?_ ⟨T8, B8, X8, P8, D8⟩)
        · intro p hp; repeat (first | assumption | refine List.mem_cons_of_mem _ ?_)
        · intro z hz
          simp only [List.contains_cons, List.contains_nil, Bool.or_false, Bool.or_eq_false_iff, beq_eq_false_iff_ne, ne_eq] at hz
          simp +zetaDelta [kstB, hz]
    · obtain rfl := (Option.some.inj (show some (Value.ref _) = some v from hv))
      k_steps
      k_extra "So"
      k_dflt (refine' (h_oct_v ?qm ?q0) _ _ _ _ _ _ _ _ _ _ _ _ _ _ _ _ _ _ ?kB ?kF ?kX ?kN ?kT ?kk ?XB ?TB ?kD ?T0 trivial ?hd ?hu ?_; (case kN => k_asm); (case qm => k_mem); (case q0 => omega); k_extra "cF"; k_extra "cX"; k_extra "cH")
      intro tH9 gH9 hH9 kH9 T9 F9 N9 B9 X9 P9 D9
      (try k_lift B9)
      (try dsimp only)
      k_steps
      refine ⟨gH9, ?_⟩
      k_steps
      k_extra "So"
      k_here
      (rename Fr _ L' _ _ => hF); (rename News _ L' _ _ => hN)
      k_dflt (refine' KStt.kst_text (σ := Int × Tok) (fun _ => _) (fun c => [(Str.ofString "amount", .int c.1 c.2)]) (fun c => 0 ≤ c.1 ∧ c.1 ≤ 65535) [] (fun pre c => c.1 = amtV 8 0 (pre.map Int.toNat)) (0, _) rfl hF hN ⟨Int.le_refl 0, (by decide : (0 : Int) ≤ 65535)⟩ ?kh9 rfl ?ka9 ?kb9)
      case kh9 => kst_all
      case ka9 =>
        refine pr2 ?_; intro a ta pre post n t u h tk own hcodes hoff hfa hQ F2 N2
        dsimp only at hfa hQ F2 N2
        obtain ⟨hx, h0, h1, e1, h2, h3⟩ := hex_turn (b := 8) (by decide) (by decide) (by omega) hcodes hQ
        k_steps
        k_extra "So"
        (rename Fr _ L' _ _ => fE); (rename News _ L' _ _ => nE)
        exact kst_end (_, _) fE nE (fun p hp => List.mem_append_left own hp) (fun p hp => List.mem_append_right _ hp) rfl ⟨h2, h3⟩ (by kst_all) (by intro z h1 h2 h3; have h2' := h2 _ (.head _); simp +zetaDelta [kstB, h1, h2']) e1
      case kb9 =>
        refine pr2 ?_; intro a ta u h tk hfa hQ F2 N2
        dsimp only at hfa hQ F2 N2
        have hfin : a = (z - 32768).fmod 65536 := hex_done (b := 8) (by decide) (by decide) hQ
        k_steps
        (rename Fr _ L' _ _ => fE); (rename News _ L' _ _ => nE)
        refine TurnEnd.next fE nE ?_ hoff (Jt.mk ?_ ⟨T9, B9, X9, P9, D9⟩)
        · intro p hp; repeat (first | assumption | refine List.mem_cons_of_mem _ ?_)
        · intro z hz
          simp only [List.contains_cons, List.contains_nil, Bool.or_false, Bool.or_eq_false_iff, beq_eq_false_iff_ne, ne_eq] at hz
          simp +zetaDelta [kstB, hz]
    · simp at hv
  intro g m news h tk hJ; apply Jt.use hJ; clear hJ; intro u hJ; refine and5 hJ ?_; clear hJ; intro TT TB TX TP TD fF fN
  k_steps
  k_extra "So"
  k_dflt (refine' (h_hex_x ?qm ?q0 ?q1) _ _ _ _ _ _ _ _ _ _ _ _ _ _ _ _ _ _ ?kB ?kF ?kX ?kN ?kT ?kk ?XB ?TB ?kD ?T0 trivial ?hd ?hu ?_; (case kN => k_asm); (case qm => k_mem); (case q0 => omega); (case q1 => omega); k_extra "cF"; k_extra "cX"; k_extra "cH")
  intro tH10 gH10 hH10 kH10 T10 F10 N10 B10 X10 P10 D10
  (try k_lift B10)
  (try dsimp only)
  k_steps
  k_extra "So"
  k_dflt (refine' (h_hex_tm ?qm ) _ _ _ _ _ _ _ _ _ _ _ _ _ _ _ _ _ _ ?kB ?kF ?kX ?kN ?kT ?kk ?XB ?TB ?kD ?T0 trivial ?hd ?hu ?_; (case kN => k_asm); (case qm => k_mem); k_extra "cF"; k_extra "cX"; k_extra "cH")
  intro tH11 gH11 hH11 kH11 T11 F11 N11 B11 X11 P11 D11
  (try k_lift B11)
  (try dsimp only)
  k_steps
  k_extra "So"
  k_dflt (refine' (h_str ?qm ?q0) _ _ _ _ _ _ _ _ _ _ _ _ _ _ _ _ _ _ ?kB ?kF ?kX ?kN ?kT ?kk ?XB ?TB ?kD ?T0 trivial ?hd ?hu ?_; (case kN => k_asm); (case qm => k_mem); (case q0 => omega); k_extra "cF"; k_extra "cX"; k_extra "cH")
  intro tH12 gH12 hH12 kH12 T12 F12 N12 B12 X12 P12 D12
  (try k_lift B12)
  (try dsimp only)
  have hla : (if z - 32768 < 0 then Str.ofString "-" else Str.ofString " ").length ≤ 10000 := by split <;> decide
  have hlb : (Str.ofString (toString (if z - 32768 < 0 then -(z - 32768) else z - 32768))).length ≤ 10000 := str_fits (by omega)
  k_steps
  k_extra "So"
  (rename Fr _ L' _ _ => jF); (rename News _ L' _ _ => jN)
  refine join_str (if z - 32768 < 0 then Str.ofString "-" else Str.ofString " ") jF jN ?_ ?_
  · k_steps
    all_goals first
      | exact JoinS.end (by k_asm) (by k_asm) (if_pos (by omega)).symm (fun p hp => hp)
      | exact JoinS.end (by k_asm) (by k_asm) (if_neg (by omega)).symm (fun p hp => hp)
  intro jt jh jk jF' jN'
  have hm5 : 0 ≤ q.fmod 5 ∧ q.fmod 5 < 5 := ⟨Int.fmod_nonneg_of_pos _ (by decide), Int.fmod_lt_of_pos _ (by decide)⟩
  have hlc : (St ((if z - 32768 < 0 then 45 else 32) :: inb 10 (z - 32768).natAbs)).length ≤ 10000 := Nat.le_trans (told_fits _) (by decide)
  have hld : (Str.ofString "  " ++ St ((if z - 32768 < 0 then 45 else 32) :: inb 10 (z - 32768).natAbs)).length ≤ 10000 := told_fits2 _
  k_steps
  k_extra "So"
  rcases Int.lt_trichotomy (z - 32768) 0 with hs | hs | hs
  · skip
    k_dflt (refine' (h_val_neg ?qm ?q0) _ _ _ _ _ _ _ _ _ _ _ _ _ _ _ _ _ _ ?kB ?kF ?kX ?kN ?kT ?kk ?XB ?TB ?kD ?T0 trivial ?hd ?hu ?_; (case kN => k_asm); (case qm => k_mem); (case q0 => exact val_neg (told_neg hs) (by with_reducible assumption) hs (by omega)); k_extra "cF"; k_extra "cX"; k_extra "cH")
    intro rT13 pT13 qT13 tp13 tq13 gH13 hH13 kH13 PT13 T13 F13 N13 B13 X13 P13 D13
    (try k_lift B13)
    (try dsimp only)
    first | (refine and5 PT13 ?_; clear PT13; intro pb0 pb1 pa0 pa1 pe) | obtain ⟨pb0, pb1, pa0, pa1, pe⟩ := PT13
    replace pe := pe.trans (show _ = z - 32768 by omega)
    k_steps
    k_extra "So"
    k_dflt (refine' (h_val_x1 ?qm ) _ _ _ _ _ _ _ _ _ _ _ _ _ _ _ _ _ _ ?kB ?kF ?kX ?kN ?kT ?kk ?XB ?TB ?kD ?T0 trivial ?hd ?hu ?_; (case kN => k_asm); (case qm => k_mem); k_extra "cF"; k_extra "cX"; k_extra "cH")
    intro rT14 pT14 qT14 tp14 tq14 gH14 hH14 kH14 PT14 T14 F14 N14 B14 X14 P14 D14
    (try k_lift B14)
    (try dsimp only)
    obtain ⟨rfl, rfl⟩ := PT14
    k_steps
    (try dsimp +zetaDelta only)
    k_steps
    exact hret _ _ (by k_asm)
  · skip
    k_dflt (refine' (h_val_zero ?qm ?q0) _ _ _ _ _ _ _ _ _ _ _ _ _ _ _ _ _ _ ?kB ?kF ?kX ?kN ?kT ?kk ?XB ?TB ?kD ?T0 trivial ?hd ?hu ?_; (case kN => k_asm); (case qm => k_mem); (case q0 => exact val_zero (told_pos (by omega)) (by with_reducible assumption) hs); k_extra "cF"; k_extra "cX"; k_extra "cH")
    intro tH13 gH13 hH13 kH13 T13 F13 N13 B13 X13 P13 D13
    (try k_lift B13)
    (try dsimp only)
    have hz0 : (0 : Int) = z - 32768 := hs.symm
    k_steps
    k_extra "So"
    k_dflt (refine' (h_val_x1 ?qm ) _ _ _ _ _ _ _ _ _ _ _ _ _ _ _ _ _ _ ?kB ?kF ?kX ?kN ?kT ?kk ?XB ?TB ?kD ?T0 trivial ?hd ?hu ?_; (case kN => k_asm); (case qm => k_mem); k_extra "cF"; k_extra "cX"; k_extra "cH")
    intro rT14 pT14 qT14 tp14 tq14 gH14 hH14 kH14 PT14 T14 F14 N14 B14 X14 P14 D14
    (try k_lift B14)
    (try dsimp only)
    obtain ⟨rfl, rfl⟩ := PT14
    k_steps
    (try dsimp +zetaDelta only)
    k_steps
    exact hret _ _ (by k_asm)
  · skip
    k_dflt (refine' (h_val_pos ?qm ?q0) _ _ _ _ _ _ _ _ _ _ _ _ _ _ _ _ _ _ ?kB ?kF ?kX ?kN ?kT ?kk ?XB ?TB ?kD ?T0 trivial ?hd ?hu ?_; (case kN => k_asm); (case qm => k_mem); (case q0 => exact val_pos1 (told_pos (by omega)) (by with_reducible assumption) (by omega) (by omega)); k_extra "cF"; k_extra "cX"; k_extra "cH")
    intro rT13 pT13 qT13 tp13 tq13 gH13 hH13 kH13 PT13 T13 F13 N13 B13 X13 P13 D13
    (try k_lift B13)
    (try dsimp only)
    first | (refine and5 PT13 ?_; clear PT13; intro pb0 pb1 pa0 pa1 pe) | obtain ⟨pb0, pb1, pa0, pa1, pe⟩ := PT13
    k_steps
    k_extra "So"
    k_dflt (refine' (h_val_x1 ?qm ) _ _ _ _ _ _ _ _ _ _ _ _ _ _ _ _ _ _ ?kB ?kF ?kX ?kN ?kT ?kk ?XB ?TB ?kD ?T0 trivial ?hd ?hu ?_; (case kN => k_asm); (case qm => k_mem); k_extra "cF"; k_extra "cX"; k_extra "cH")
    intro rT14 pT14 qT14 tp14 tq14 gH14 hH14 kH14 PT14 T14 F14 N14 B14 X14 P14 D14
    (try k_lift B14)
    (try dsimp only)
    obtain ⟨rfl, rfl⟩ := PT14
    k_steps
    (try dsimp +zetaDelta only)
    k_steps
    exact hret _ _ (by k_asm)
  )
  simpa using pick n 5 h
end Mine
end
section
open PySem.Spec
namespace Mine
noncomputable abbrev AlphaL (l : List Nat) : Prop := ∀ c ∈ l, c ∈ [97, 98, 90, 32, 49, 91, 34, 9]
noncomputable def lwAdd (n : Int) (F : List Nat) (c : Nat) : List Nat :=
  if blank c = true then (if flag n 2 then [] else if flag n 16 then (if F.getLast? = some 32 then [] else [32]) else [c])
  else if c = 91 ∧ flag n 64 then [40] else [if flag n 32 then upc c else c]
noncomputable def lwStep (n : Int) (s : List Nat × Bool) (c : Nat) : List Nat × Bool :=
  if flag n 256 ∧ c = 34 then (s.1 ++ [34], !s.2)
  else if s.2 = true then (s.1 ++ [c], s.2)
  else (s.1 ++ lwAdd n s.1 c, s.2)
noncomputable def lwRun (n : Int) (l : List Nat) : List Nat × Bool := l.foldl (lwStep n) ([], false)
theorem alpha_cases {c : Nat} (h : c ∈ [97, 98, 90, 32, 49, 91, 34, 9]) : c = 97 ∨ c = 98 ∨ c = 90 ∨ c = 32 ∨ c = 49 ∨ c = 91 ∨ c = 34 ∨ c = 9 := by simpa using h
theorem edTold_blank {n : Int} {F : List Nat} {c : Nat} (hb : blank c = true) (h8 : flag n 8 → F ≠ []) (hc : c = 32 ∨ c = 9) : edTold n F c = lwAdd n F c := by
  unfold lwAdd
  rw [if_pos hb]
  by_cases h2 : flag n 2
  · have e : esL n c = [] := by unfold esL; rw [if_pos ⟨h2, hb⟩]
    unfold edTold
    rw [e, if_pos h2]
    rfl
  · have e : esL n c = [c] := by
      unfold esL
      rw [if_neg (fun h => h2 h.1), if_neg (fun h => by lia)]
      rcases hc with rfl | rfl <;> split <;> rfl
    unfold edTold
    rw [e, if_neg h2, if_pos (by simpa using hb), if_neg (fun h => h8 h.1 h.2)]
theorem edTold_not {n : Int} {F : List Nat} {c : Nat} (hb : blank c = false) (hc : c ∈ [97, 98, 90, 32, 49, 91, 34, 9]) : edTold n F c = lwAdd n F c := by
  have hne : ¬ blank c = true := by rw [hb]; decide
  unfold lwAdd
  rw [if_neg hne]
  have e : esL n c = if c = 91 ∧ flag n 64 then [40] else [if flag n 32 then upc c else c] := by
    unfold esL
    rw [if_neg (fun h => hne h.2)]
    by_cases h1 : c = 91
    · subst h1
      by_cases h64 : flag n 64
      · rw [if_pos (show flag n 64 ∧ ((91 : Nat) = 91 ∨ (91 : Nat) = 93) from ⟨h64, .inl rfl⟩), if_pos (show (91 : Nat) = 91 ∧ flag n 64 from ⟨rfl, h64⟩)]; rfl
      · rw [if_neg (show ¬ (flag n 64 ∧ ((91 : Nat) = 91 ∨ (91 : Nat) = 93)) from fun h => h64 h.1), if_neg (show ¬ ((91 : Nat) = 91 ∧ flag n 64) from fun h => h64 h.2)]
    · rw [if_neg (show ¬ (c = 91 ∧ flag n 64) from fun h => h1 h.1), if_neg (show ¬ (flag n 64 ∧ (c = 91 ∨ c = 93)) from fun ⟨_, h⟩ => by have := alpha_cases hc; lia)]
  have ea : (esL n c).any blank = false := by
    rw [e]
    rcases alpha_cases hc with rfl | rfl | rfl | rfl | rfl | rfl | rfl | rfl <;> first | (exact absurd hb (by decide)) | (split <;> first | rfl | (split <;> rfl))
  unfold edTold
  rw [if_neg (by rw [ea]; decide)]
  exact e
structure LI (n : Int) (e : Ed) (s : List Nat × Bool) : Prop where
  f : e.F = s.1
  q : e.q = if s.2 = true then [34] else []
  w : s.2 = true → flag n 256
  k : e.K ≤ e.F.length
  o : s.2 = false → e.K = 0 ∨ ∃ a, e.F.take e.K = a ++ [34]
  i : s.2 = true → e.K = e.F.length ∨ ∃ a, e.F = a ++ [34]
theorem li_init (n : Int) : LI n ⟨[], 0, []⟩ ([], false) := ⟨rfl, rfl, (fun h => by cases h), Nat.le_refl _, fun _ => .inl rfl, (fun h => by cases h)⟩
theorem li_step {n : Int} {e : Ed} {s : List Nat × Bool} {c : Nat} (h : LI n e s) (hc : c ∈ [97, 98, 90, 32, 49, 91, 34, 9]) (h8 : flag n 8 → blank c = true → e.F ≠ []) : LI n (edStep n e c) (lwStep n s c) := by
  first | (refine and3 e ?_; clear e; intro F K q) | obtain ⟨F, K, q⟩ := e
  first | (refine and2 s ?_; clear s; intro G b) | obtain ⟨G, b⟩ := s
  first | (refine and6 h ?_; clear h; intro hf hq hw hk ho hi) | obtain ⟨hf, hq, hw, hk, ho, hi⟩ := h
  dsimp only at hf hq hw hk ho hi h8
  subst hf
  cases b with
  | true =>
    have hq : q = [34] := hq
    subst hq
    have h256 := hw rfl
    unfold edStep lwStep
    dsimp only
    rw [if_pos (by decide)]
    by_cases h34 : c = 34
    · subst h34
      rw [if_pos rfl, if_pos ⟨h256, rfl⟩]
      exact ⟨rfl, rfl, (fun h => by cases h), by simp, fun _ => .inr ⟨F, List.take_of_length_le (by simp)⟩, (fun h => by cases h)⟩
    · rw [if_neg (fun h => h34 (List.cons.inj h).1), if_neg (fun h => h34 h.2), if_pos rfl]
      exact ⟨rfl, rfl, fun _ => h256, by simp, (fun h => by cases h), fun _ => .inl (by simp)⟩
  | false =>
    have hq : q = [] := hq
    subst hq
    have hadd : edTold n F c = lwAdd n F c := by
      cases hb : blank c with
      | true => exact edTold_blank hb (fun h => h8 h hb) (by rcases alpha_cases hc with rfl | rfl | rfl | rfl | rfl | rfl | rfl | rfl <;> first | decide | exact absurd hb (by decide))
      | false => exact edTold_not hb hc
    have keep : ∀ X : List Nat, K = 0 ∨ ∃ a, (F ++ X).take K = a ++ [34] := fun X => (ho rfl).imp id fun ⟨a, ha⟩ => ⟨a, by rw [List.take_append_of_le_length hk]; exact ha⟩
    unfold edStep lwStep
    dsimp only
    rw [if_neg (fun h => h rfl)]
    by_cases h34 : flag n 256 ∧ c = 34
    · obtain ⟨h256, rfl⟩ := h34
      have e34 : lwAdd n F 34 = [34] := by
        unfold lwAdd
        rw [if_neg (by decide), if_neg (fun h => absurd h.1 (by decide))]
        split <;> rfl
      rw [if_pos (show flag n 256 ∧ ((34 : Nat) = 34 ∨ (34 : Nat) = 39) from ⟨h256, .inl rfl⟩), if_pos (show flag n 256 ∧ (34 : Nat) = 34 from ⟨h256, rfl⟩), hadd, e34]
      exact ⟨rfl, rfl, fun _ => h256, by simp; omega, (fun h => by cases h), fun _ => .inr ⟨F, rfl⟩⟩
    · rw [if_neg h34, if_neg (show ¬ (false = true) by decide), if_neg (show ¬ (flag n 256 ∧ (c = 34 ∨ c = 39)) from fun h => h34 ⟨h.1, by have := alpha_cases hc; lia⟩), hadd]
      exact ⟨rfl, rfl, (fun h => by cases h), by simp; omega, fun _ => keep _, (fun h => by cases h)⟩
theorem li_ne {n : Int} {e : Ed} {c : Nat} (hc : c ∈ [97, 98, 90, 32, 49, 91, 34, 9]) (h : blank c = true → e.F ≠ []) : (edStep n e c).F ≠ [] := by
  unfold edStep
  split
  · simp
  · cases hb : blank c with
    | true => have := h hb; simp [this]
    | false =>
      rw [edTold_not hb hc]
      unfold lwAdd
      rw [if_neg (by rw [hb]; decide)]
      split <;> simp
theorem li_run {n : Int} : ∀ (l : List Nat) (e : Ed) (s : List Nat × Bool), AlphaL l → LI n e s → (flag n 8 → e.F ≠ [] ∨ ∀ c, l.head? = some c → blank c = false) → LI n (l.foldl (edStep n) e) (l.foldl (lwStep n) s)
  | [], _, _, _, h, _ => h
  | c :: r, e, s, ha, h, h8 => by
    have hb : flag n 8 → blank c = true → e.F ≠ [] := fun h1 h2 => (h8 h1).elim id fun h3 => by rw [h3 c rfl] at h2; cases h2
    exact li_run r _ _ (fun d hd => ha d (.tail _ hd)) (li_step h (ha c (.head _)) hb) fun h1 => .inl (li_ne (ha c (.head _)) (hb h1))
theorem run_strip {n : Int} (h8 : flag n 8) : ∀ (l : List Nat), (lstrip l).foldl (edStep n) ⟨[], 0, []⟩ = l.foldl (edStep n) ⟨[], 0, []⟩
  | [] => rfl
  | c :: r => by
    cases hb : blank c with
    | false => rw [lstrip_cons_ne r c hb]
    | true =>
      rw [lstrip_cons r c hb, run_strip h8 r, List.foldl_cons]
      have hc : c = 32 ∨ c = 9 := by simpa [blank] using hb
      have e : edStep n ⟨[], 0, []⟩ c = ⟨[], 0, []⟩ := by
        unfold edStep
        rw [if_neg (fun h => h rfl)]
        have e1 : edTold n [] c = [] := by
          unfold edTold
          by_cases h2 : flag n 2
          · have e : esL n c = [] := by unfold esL; rw [if_pos ⟨h2, hb⟩]
            rw [e]; rfl
          · have e : esL n c = [c] := by
              unfold esL
              rw [if_neg (fun h => h2 h.1), if_neg (fun h => by omega)]
              rcases hc with rfl | rfl <;> split <;> rfl
            rw [e, if_pos (by simpa using hb), if_pos ⟨h8, rfl⟩]
        rw [e1, if_neg (fun h => by lia)]
        rfl
      rw [e]
theorem lstrip_head : ∀ (l : List Nat) (c : Nat), (lstrip l).head? = some c → blank c = false
  | [], c, h => by cases h
  | d :: r, c, h => by
    cases hb : blank d with
    | true => rw [lstrip_cons r d hb] at h; exact lstrip_head r c h
    | false => rw [lstrip_cons_ne r d hb] at h; simp at h; subst h; exact hb
theorem lstrip_mem : ∀ (l : List Nat) (c : Nat), c ∈ lstrip l → c ∈ l
  | [], c, h => h
  | d :: r, c, h => by
    cases hb : blank d with
    | true => rw [lstrip_cons r d hb] at h; exact .tail _ (lstrip_mem r c h)
    | false => rwa [lstrip_cons_ne r d hb] at h
theorem rstrip_app (a : List Nat) (d : Nat) (hd : blank d = false) : ∀ (k : Nat) (b : List Nat), b.length = k → rstrip (a ++ [d] ++ b) = a ++ [d] ++ rstrip b
  | 0, b, h => by
    rw [List.eq_nil_of_length_eq_zero h, List.append_nil, rstrip_snoc_ne a d hd]
    exact (List.append_nil _).symm
  | k + 1, b, h => by
    rcases List.eq_nil_or_concat b with rfl | ⟨b', x, rfl⟩
    · cases h
    · rw [List.concat_eq_append] at h ⊢
      have hl : b'.length = k := by simpa using h
      rw [← List.append_assoc]
      cases hx : blank x with
      | true => rw [rstrip_snoc _ _ hx, rstrip_snoc _ _ hx]; exact rstrip_app a d hd k b' hl
      | false => rw [rstrip_snoc_ne _ _ hx, rstrip_snoc_ne _ _ hx, List.append_assoc]
theorem ed_law {n : Int} {l l' : List Nat} (ha : AlphaL l) (hl : l' = if flag n 8 then lstrip l else l) : edOut n l = if flag n 128 ∧ (lwRun n l').2 = false then rstrip (lwRun n l').1 else (lwRun n l').1 := by
  have ha' : AlphaL l' := by
    rw [hl]; split
    · exact fun c hc => ha c (lstrip_mem l c hc)
    · exact ha
  have hr : edRun n l = l'.foldl (edStep n) ⟨[], 0, []⟩ := by
    rw [hl]; split
    · next h => exact (run_strip h l).symm
    · rfl
  have I := li_run (n := n) l' _ _ ha' (li_init n) fun h8 => .inr (by rw [hl, if_pos h8]; exact lstrip_head l)
  rw [← hr] at I
  first | (refine and6 I ?_; clear I; intro hf hq hw hk ho hi) | obtain ⟨hf, hq, hw, hk, ho, hi⟩ := I
  change (edRun n l).F = (lwRun n l').1 at hf
  change (lwRun n l').2 = false → _ at ho
  change (lwRun n l').2 = true → _ at hi
  unfold edOut
  by_cases h128 : flag n 128
  · rw [if_pos h128]
    cases hb : (lwRun n l').2 with
    | false =>
      rw [if_pos ⟨h128, rfl⟩, ← hf]
      rcases ho hb with h0 | ⟨a, h0⟩
      · rw [h0]; rfl
      · have e := List.take_append_drop (edRun n l).K (edRun n l).F
        rw [h0] at e ⊢
        rw [← rstrip_app a 34 (by decide) _ _ rfl, e]
    | true =>
      rw [if_neg (fun h => by cases h.2), ← hf]
      rcases hi hb with h0 | ⟨a, h0⟩
      · rw [h0, List.take_length, List.drop_length]
        exact List.append_nil _
      · have e := List.take_append_drop (edRun n l).K (edRun n l).F
        have e2 : rstrip ((edRun n l).F.drop (edRun n l).K) = (edRun n l).F.drop (edRun n l).K := by
          rw [h0]
          rcases Nat.lt_or_ge (edRun n l).K (a.length + 1) with h1 | h1
          · rw [List.drop_append_of_le_length (by omega), rstrip_snoc_ne _ _ (by decide)]
          · rw [List.drop_eq_nil_of_le (by simp; omega)]; rfl
        rw [e2, e]
  · rw [if_neg h128, if_neg (fun h => h128 h.1), List.take_append_drop, hf]
end Mine
end
section
open PySem.Spec
namespace Mine
theorem flags_all : ∀ m : Fin 512, ((Builtin.bitAnd (m.1 : Int) 2 ≠ 0 ↔ ((m.1 : Int).fdiv 2).fmod 2 = 1) ∧ (Builtin.bitAnd (m.1 : Int) 8 ≠ 0 ↔ ((m.1 : Int).fdiv 8).fmod 2 = 1)) ∧ ((Builtin.bitAnd (m.1 : Int) 16 ≠ 0 ↔ ((m.1 : Int).fdiv 16).fmod 2 = 1) ∧ (Builtin.bitAnd (m.1 : Int) 32 ≠ 0 ↔ ((m.1 : Int).fdiv 32).fmod 2 = 1)) ∧
    ((Builtin.bitAnd (m.1 : Int) 64 ≠ 0 ↔ ((m.1 : Int).fdiv 64).fmod 2 = 1) ∧ (Builtin.bitAnd (m.1 : Int) 128 ≠ 0 ↔ ((m.1 : Int).fdiv 128).fmod 2 = 1)) ∧ (Builtin.bitAnd (m.1 : Int) 256 ≠ 0 ↔ 256 ≤ (m.1 : Int)) := by decide +kernel
theorem flags_at {n : Int} (h : 0 ≤ n ∧ n < 512) : ((flag n 2 ↔ (n.fdiv 2).fmod 2 = 1) ∧ (flag n 8 ↔ (n.fdiv 8).fmod 2 = 1)) ∧ ((flag n 16 ↔ (n.fdiv 16).fmod 2 = 1) ∧ (flag n 32 ↔ (n.fdiv 32).fmod 2 = 1)) ∧
    ((flag n 64 ↔ (n.fdiv 64).fmod 2 = 1) ∧ (flag n 128 ↔ (n.fdiv 128).fmod 2 = 1)) ∧ (flag n 256 ↔ 256 ≤ n) := by
  obtain ⟨m, rfl⟩ := Int.eq_ofNat_of_zero_le h.1
  exact flags_all ⟨m, by omega⟩
end Mine
end
section
open PySem.Spec
namespace Mine
noncomputable abbrev Flags : List Int := [2, 8, 16, 32, 64, 128, 256]
noncomputable def Sums : Nat → List Int
  | 0 => [0]
  | i + 1 => Sums i ++ (Sums i).map (· + Flags.getD i 0)
theorem sums_put {i : Nat} {ms : List Int} (h : ms.sum ∈ Sums i) {v : Int} (e : v = Flags.getD i 0) : (ms ++ [v]).sum ∈ Sums (i + 1) := by
  unfold Sums
  refine List.mem_append_right _ (List.mem_map.mpr ⟨ms.sum, h, ?_⟩)
  rw [e, List.sum_append]
  simp
theorem sums_skip {i : Nat} {ms : List Int} (h : ms.sum ∈ Sums i) : ms.sum ∈ Sums (i + 1) := by
  unfold Sums
  exact List.mem_append_left _ h
theorem sums_all : ∀ v ∈ Sums 7, (0 ≤ v ∧ v < 512) ∧ Builtin.bitAnd v 1 = 0 ∧ Builtin.bitAnd v 4 = 0 := by decide +kernel
noncomputable def tabC (i : Nat) : Nat := if i = 32 then 0 else 97 + i % 26
noncomputable abbrev tabX : Str := St ((List.range 91).map tabC)
noncomputable def dueL (l : List Nat) : List Nat := (l.filter fun c => decide (c < 91) && decide (c ≠ 32)).map fun c => 97 + c % 26
theorem led_tab {c : Nat} (h : c ∈ [97, 98, 90, 32, 49, 91, 34, 9]) : ledOne tabX c = if c < 91 ∧ c ≠ 32 then [97 + c % 26] else [] := by
  simp only [List.mem_cons, List.not_mem_nil, or_false] at h
  rcases h with rfl | rfl | rfl | rfl | rfl | rfl | rfl | rfl <;> decide +kernel
theorem due_law : ∀ (l : List Nat), (∀ c ∈ l, c ∈ [97, 98, 90, 32, 49, 91, 34, 9]) → ledAll tabX l = dueL l
  | [], _ => rfl
  | c :: r, h => by
    have ih := due_law r fun d hd => h d (.tail _ hd)
    unfold ledAll dueL at ih ⊢
    rw [List.flatMap_cons, ih, led_tab (h c (.head _))]
    by_cases hc : c < 91 ∧ c ≠ 32
    · rw [if_pos hc, List.filter_cons_of_pos (by simpa using hc)]; rfl
    · rw [if_neg hc, List.filter_cons_of_neg (by simpa using hc)]; rfl
theorem tab_len : tabX.length ≤ 100 := by rw [St_len]; decide +kernel
theorem due_snoc (l : List Nat) (c : Nat) : dueL (l ++ [c]) = dueL l ++ if c < 91 ∧ c ≠ 32 then [97 + c % 26] else [] := by
  unfold dueL
  rw [List.filter_append, List.map_append]
  congr 1
  by_cases hc : c < 91 ∧ c ≠ 32
  · rw [if_pos hc, List.filter_cons_of_pos (by simpa using hc)]; rfl
  · rw [if_neg hc, List.filter_cons_of_neg (by simpa using hc)]; rfl
theorem due_put {x : Str} {i c : Nat} {ys : List Value} {t : Tok} {k : Int} (h : StrsAre ys (ones (dueL ((cd x).take i)))) (hc : x.cps[i]? = some c) (h1 : c < 91 ∧ c ≠ 32) (hk : k = 97 + (c : Int).fmod 26) : StrsAre (ys ++ [.str ⟨#[k.toNat]⟩ t]) (ones (dueL ((cd x).take (i + 1)))) := by
  have e : (cd x).take (i + 1) = (cd x).take i ++ [c] := by
    rw [List.take_add_one]
    have : (cd x)[i]? = some c := by simpa [cd] using hc
    rw [this]; rfl
  have ek : k.toNat = 97 + c % 26 := by
    rw [Int.fmod_eq_emod_of_nonneg _ (by decide)] at hk
    lia
  rw [e, due_snoc, if_pos h1, ek]
  exact strs_ones_snoc h
theorem due_skip {x : Str} {i c : Nat} {ys : List Value} (h : StrsAre ys (ones (dueL ((cd x).take i)))) (hc : x.cps[i]? = some c) (h1 : ¬ (c < 91 ∧ c ≠ 32)) : StrsAre ys (ones (dueL ((cd x).take (i + 1)))) := by
  have e : (cd x).take (i + 1) = (cd x).take i ++ [c] := by
    rw [List.take_add_one]
    have : (cd x)[i]? = some c := by simpa [cd] using hc
    rw [this]; rfl
  rw [e, due_snoc, if_neg h1, List.append_nil]
  exact h
theorem due_len (l : List Nat) : (dueL l).length ≤ l.length := by
  unfold dueL
  rw [List.length_map]
  exact List.length_filter_le _ _
theorem tab_put {i : Nat} {ys : List Value} {t : Tok} {k : Nat} (h : StrsAre ys (ones ((List.range i).map tabC))) (hk : k = tabC i) : StrsAre (ys ++ [.str ⟨#[k]⟩ t]) (ones ((List.range (i + 1)).map tabC)) := by
  rw [List.range_succ, List.map_append, List.map_cons, List.map_nil, ← hk]
  exact strs_ones_snoc h
noncomputable def FInv (w : World) (pd cl : Addr) (c₀ : Int) (a b : Addr × Obj) (rest : List (Addr × Obj)) (i : Nat) (ys : List Value) (nw : List (Addr × Obj)) : Prop :=
  ∃ ms o2 c2, IntsAre ys ms ∧ ms.sum ∈ Sums i ∧ ms.length ≤ i ∧ nw = a :: b :: (pd, o2) :: rest ∧ PoolIs w o2 cl c2 ∧ c₀ ≤ c2 ∧ c2 ≤ c₀ + (i : Int)
theorem FInv.use {w : World} {pd cl : Addr} {c₀ : Int} {a b : Addr × Obj} {rest : List (Addr × Obj)} {i : Nat} {ys : List Value} {nw : List (Addr × Obj)} {G : List (Addr × Obj) → Prop} (j : FInv w pd cl c₀ a b rest i ys nw)
    (k : ∀ ms o2 c2, IntsAre ys ms → ms.sum ∈ Sums i → ms.length ≤ i → PoolIs w o2 cl c2 → c₀ ≤ c2 → c2 ≤ c₀ + (i : Int) → G (a :: b :: (pd, o2) :: rest)) : G nw := by
  obtain ⟨ms, o2, c2, h1, h2, h3, rfl, h4, h5, h6⟩ := j; exact k ms o2 c2 h1 h2 h3 h4 h5 h6
theorem tabC_no {i : Nat} (h : ¬ (0 + (i : Int)) = 32) : (97 + (0 + (i : Int)).fmod 26).toNat = tabC i := by
  unfold tabC
  rw [if_neg (by omega), Int.fmod_eq_emod_of_nonneg _ (by decide)]
  lia
theorem tabC_32 {i : Nat} (h : (0 + (i : Int)) = 32) : 0 = tabC i := by
  unfold tabC
  rw [if_pos (by omega)]
theorem law_due {x : Str} (h : ∀ c ∈ cd x, c ∈ [97, 98, 90, 32, 49, 91, 34, 9]) : St (ledAll tabX (cd x)) = St (dueL ((cd x).take x.cps.size)) := by
  rw [due_law _ h, List.take_of_length_le (by simp [cd])]
theorem due_fit {x : Str} {i : Nat} {ys : List Value} (h : StrsAre ys (ones (dueL ((cd x).take i)))) : ys.length ≤ i := by
  rw [strs_len h, ones, List.length_map]
  exact Nat.le_trans (due_len _) (by rw [List.length_take]; omega)
theorem due_10k {x : Str} {i : Nat} (h : x.length ≤ 10000) : (dueL ((cd x).take i)).length ≤ 10000 := by
  have h2 := due_len ((cd x).take i)
  have h3 := cd_len x
  rw [List.length_take] at h2
  omega
theorem sp_ne {c : Nat} (h : ((⟨#[c]⟩ : Str) != Str.ofString " ") = true) : c ≠ 32 := by
  rintro rfl
  exact absurd h (by decide)
theorem sp_is {c : Nat} (h : ((⟨#[c]⟩ : Str) != Str.ofString " ") = false) : ¬ (c < 91 ∧ c ≠ 32) := by
  rintro ⟨_, h2⟩
  have e : (⟨#[c]⟩ : Str) = Str.ofString " " := by simpa [bne] using h
  have := congrArg (fun y : Str => y.cps.toList) e
  simp [show (Str.ofString " ").cps.toList = [32] from rfl] at this
  exact h2 this
end Mine
end
section
open PySem.Spec PySem.Builtin PySem.Builtin.Str
namespace Mine
theorem slice_na (x : Str) : Txt.slice x (some (-1)) none = St ((cd x).drop (x.length - 1)) := by
  have h : strSliceIndices (some (-1)) none 1 x.length = strSliceIndices (some (((x.length - 1 : Nat)) : Int)) none 1 x.length := by
    generalize x.length = n
    cases n with
    | zero => rfl
    | succ k =>
      simp only [strSliceIndices, if_pos (show (1 : Int) > 0 by decide), if_pos (show (-1 : Int) < 0 by decide), Nat.add_sub_cancel, if_neg (Int.not_lt.mpr (Int.natCast_nonneg k)), show (-1 : Int) + ((k + 1 : Nat) : Int) = (k : Int) by omega, Int.max_eq_right (Int.natCast_nonneg k), mmn, Nat.min_eq_left (Nat.le_succ k)]
  have e : Txt.slice x (some (-1)) none = Txt.slice x (some (((x.length - 1 : Nat)) : Int)) none := by unfold Txt.slice; rw [h]
  rw [e, slice_a x _ (by omega), Int.toNat_natCast]
theorem slice_nb (x : Str) : Txt.slice x none (some (-1)) = St ((cd x).take (x.length - 1)) := by
  have h : strSliceIndices none (some (-1)) 1 x.length = strSliceIndices none (some (((x.length - 1 : Nat)) : Int)) 1 x.length := by
    generalize x.length = n
    cases n with
    | zero => rfl
    | succ k =>
      simp only [strSliceIndices, if_pos (show (1 : Int) > 0 by decide), if_pos (show (-1 : Int) < 0 by decide), Nat.add_sub_cancel, if_neg (Int.not_lt.mpr (Int.natCast_nonneg k)), show (-1 : Int) + ((k + 1 : Nat) : Int) = (k : Int) by omega, Int.max_eq_right (Int.natCast_nonneg k), mmn, Nat.min_eq_left (Nat.le_succ k)]
  have e : Txt.slice x none (some (-1)) = Txt.slice x none (some (((x.length - 1 : Nat)) : Int)) := by unfold Txt.slice; rw [h]
  rw [e, slice_b x _ (by omega), Int.toNat_natCast]
theorem ch_is (d : Nat) (l : List Nat) : (St [d] == St l) = decide (l = [d]) := by
  by_cases h : l = [d]
  · subst h; simp
  · rw [decide_eq_false h]
    cases hc : ((St [d] : Str) == St l) with
    | false => rfl
    | true =>
      exfalso
      have : St [d] = St l := by simpa using hc
      have := congrArg (fun y : Str => y.cps.toList) this
      simp [St] at this
      exact h this.symm
theorem any_sp (l : List Nat) : ([Str.ofString " ", Str.ofString "\t"].any fun z => z == St l) = (decide (l = [32]) || decide (l = [9])) := by
  have e1 : (Str.ofString " " == St l) = decide (l = [32]) := ch_is 32 l
  have e2 : (Str.ofString "\t" == St l) = decide (l = [9]) := ch_is 9 l
  simp only [List.any_cons, List.any_nil, Bool.or_false, e1, e2]
theorem head_sp {y : Str} {b : Bool} (h : ([Str.ofString " ", Str.ofString "\t"].any fun z => z == Txt.slice y none (some 1)) = b) : (match cd y with | [] => false | c :: _ => blank c) = b := by
  rw [slice_b y 1 (by decide), any_sp] at h
  rw [← h]
  cases cd y with
  | nil => rfl
  | cons c r => simp [blank, Bool.beq_eq_decide_eq]
theorem fst_step {y : Str} {R : List Nat} (h : lstrip (cd y) = R) (hl : y.length ≤ 100) (ha : ([Str.ofString " ", Str.ofString "\t"].any fun z => z == Txt.slice y none (some 1)) = true) : lstrip (cd (Txt.slice y (some 1) none)) = R ∧ (Txt.slice y (some 1) none).length ≤ 100 := by
  have hh := head_sp ha
  rw [slice_a y 1 (by decide)]
  have hlen := cd_len y
  cases e : cd y with
  | nil => rw [e] at hh; cases hh
  | cons c r =>
    rw [e] at hh h hlen
    refine ⟨by rw [← h, lstrip_cons r c hh]; rfl, ?_⟩
    rw [St_len]
    simp at hlen ⊢
    omega
theorem fst_less {y : Str} (ha : ([Str.ofString " ", Str.ofString "\t"].any fun z => z == Txt.slice y none (some 1)) = true) : (Txt.slice y (some 1) none).length < y.length := by
  have hh := head_sp ha
  rw [slice_a y 1 (by decide), St_len, ← cd_len y]
  cases e : cd y with
  | nil => rw [e] at hh; cases hh
  | cons c r => simp
theorem fst_stop {y : Str} {R : List Nat} (h : lstrip (cd y) = R) (ha : ([Str.ofString " ", Str.ofString "\t"].any fun z => z == Txt.slice y none (some 1)) = false) : cd y = R := by
  have hh := head_sp ha
  cases e : cd y with
  | nil => rw [e] at h; exact h
  | cons c r =>
    rw [e] at hh h
    rw [← h, lstrip_cons_ne r c hh]
theorem bne_nil {y : Str} (h : (y != Str.ofString "") = false) : y = Str.ofString "" := by simpa [bne] using h
theorem fst_none {y : Str} (ha : ([Str.ofString " ", Str.ofString "\t"].any fun z => z == Txt.slice y none (some 1)) = true) (h : (y != Str.ofString "") = false) : False := by
  have hh := head_sp ha
  rw [bne_nil h] at hh
  cases hh
theorem last_split (l : List Nat) : l = [] ∨ ∃ r c, l = r ++ [c] := by
  rcases List.eq_nil_or_concat l with h | ⟨r, c, h⟩
  · exact .inl h
  · exact .inr ⟨r, c, by rw [h, List.concat_eq_append]⟩
theorem last_sp {y : Str} {b : Bool} (h : ([Str.ofString " ", Str.ofString "\t"].any fun z => z == Txt.slice y (some (-1)) none) = b) : (match (cd y).getLast? with | none => false | some c => blank c) = b := by
  rw [slice_na y, any_sp, ← cd_len y] at h
  rw [← h]
  rcases last_split (cd y) with e | ⟨r, c, e⟩
  · rw [e]; rfl
  · rw [e]; simp [blank, Bool.beq_eq_decide_eq]
theorem lst_step {y : Str} {R : List Nat} (h : rstrip (cd y) = R) (hl : y.length ≤ 100) (ha : ([Str.ofString " ", Str.ofString "\t"].any fun z => z == Txt.slice y (some (-1)) none) = true) : rstrip (cd (Txt.slice y none (some (-1)))) = R ∧ (Txt.slice y none (some (-1))).length ≤ 100 := by
  have hh := last_sp ha
  have hlen := cd_len y
  rw [slice_nb y, ← hlen]
  rcases last_split (cd y) with e | ⟨r, c, e⟩
  · rw [e] at hh; cases hh
  · rw [e] at hh h hlen ⊢
    simp at hh hlen ⊢
    refine ⟨by rw [← h, rstrip_snoc _ _ hh], ?_⟩
    rw [St_len]
    omega
theorem lst_less {y : Str} (ha : ([Str.ofString " ", Str.ofString "\t"].any fun z => z == Txt.slice y (some (-1)) none) = true) : (Txt.slice y none (some (-1))).length < y.length := by
  have hh := last_sp ha
  rw [slice_nb y, St_len, ← cd_len y]
  rcases last_split (cd y) with e | ⟨r, c, e⟩
  · rw [e] at hh; cases hh
  · rw [e]; simp
theorem lst_stop {y : Str} {R : List Nat} (h : rstrip (cd y) = R) (ha : ([Str.ofString " ", Str.ofString "\t"].any fun z => z == Txt.slice y (some (-1)) none) = false) : y = St R := by
  have hh := last_sp ha
  rw [← St_cd y]
  congr 1
  rcases last_split (cd y) with e | ⟨r, c, e⟩
  · rw [e] at h ⊢; exact h
  · rw [e] at hh h ⊢
    simp at hh
    rw [← h, rstrip_snoc_ne _ _ hh]
theorem lst_none {y : Str} (ha : ([Str.ofString " ", Str.ofString "\t"].any fun z => z == Txt.slice y (some (-1)) none) = true) (h : (y != Str.ofString "") = false) : False := by
  have hh := last_sp ha
  rw [bne_nil h] at hh
  cases hh
theorem last_is {F : List Nat} {T : Str} {b : Bool} (e : T = St F) (h : (Txt.slice T (some (-1)) none == Str.ofString " ") = b) : decide (F.getLast? = some 32) = b := by
  subst e
  rw [slice_na, ← cd_len] at h
  have h2 : (St ((cd (St F)).drop ((cd (St F)).length - 1)) == St [32]) = b := h
  rw [← h2, show cd (St F) = F from rfl]
  have c := ch_is 32 (F.drop (F.length - 1))
  rw [BEq.comm] at c
  rw [c]
  rcases last_split F with e | ⟨r, d, e⟩
  · rw [e]; rfl
  · rw [e]; simp
end Mine
end
section
open PySem.Spec
namespace Mine
theorem upper_alpha {c : Nat} (hc : c ∈ [97, 98, 90, 32, 49, 91, 34, 9]) : Txt.upper ⟨#[c]⟩ = St [upc c] := by
  rcases alpha_cases hc with rfl | rfl | rfl | rfl | rfl | rfl | rfl | rfl <;> decide +kernel
section
variable {prog : Program} {w : World} {A : Around} {E : Value → Shared → Prop} {s : Shared} {Q : Value → Shared → Prop} {t : Tok}
theorem upper_at {c : Nat} (hc : c ∈ [97, 98, 90, 32, 49, 91, 34, 9]) (q : ∀ t', Q (.str (St [upc c]) t') { s with toks := s.toks + 1 }) : wpAny (model prog w) A (call (.builtin "str.upper") [.str ⟨#[c]⟩ t]) Q E s := by
  refine SC.upper ?_ ?_
  · rw [upper_alpha hc]; rfl
  · rw [upper_alpha hc]; exact q _
end
noncomputable abbrev LwP (n : Int) (pre : List Int) (T : Str) (b : Bool) : Prop := lwRun n (pre.map Int.toNat) = (cd T, b)
theorem lw_snoc (n : Int) (pre : List Int) (c : Nat) : lwRun n ((pre ++ [(c : Int)]).map Int.toNat) = lwStep n (lwRun n (pre.map Int.toNat)) c := by simp [lwRun]
theorem lwAdd_len (n : Int) (F : List Nat) (c : Nat) : (lwAdd n F c).length ≤ 1 := by
  unfold lwAdd
  split
  · split
    · simp
    · split
      · split <;> simp
      · simp
  · split <;> simp
theorem lwStep_len (n : Int) (s : List Nat × Bool) (c : Nat) : (lwStep n s c).1.length ≤ s.1.length + 1 := by
  have := lwAdd_len n s.1 c
  unfold lwStep
  split
  · simp
  · split
    · simp
    · simp; omega
theorem lwRun_len (n : Int) : ∀ (l : List Nat) (s : List Nat × Bool), (l.foldl (lwStep n) s).1.length ≤ s.1.length + l.length
  | [], s => Nat.le_refl _
  | c :: r, s => by
    have h1 := lwRun_len n r (lwStep n s c)
    have h2 := lwStep_len n s c
    rw [List.foldl_cons, List.length_cons]
    lia
theorem lw_fit {n : Int} {pre : List Int} {T : Str} {b : Bool} (h : LwP n pre T b) : T.length ≤ pre.length := by
  have h1 := lwRun_len n (pre.map Int.toNat) ([], false)
  have e : (lwRun n (pre.map Int.toNat)).1 = cd T := by rw [h]
  rw [← cd_len, ← e]
  simpa [lwRun] using h1
section
variable {n : Int} {pre : List Int} {T X : Str} {b : Bool} {c : Nat}
noncomputable abbrev Bnd (n : Int) : Prop := 0 ≤ n ∧ n < 512
theorem is_ch {d : Nat} {v : Bool} (h : ((⟨#[c]⟩ : Str) == St [d]) = v) : decide (c = d) = v := (ch_eq c d).symm.trans h
theorem cd_app (x y : Str) : cd (x ++ y) = cd x ++ cd y := by
  obtain ⟨⟨a⟩⟩ := x
  obtain ⟨⟨b⟩⟩ := y
  have := St_app a b
  exact congrArg cd this
theorem lw_quote (hb : Bnd n) (h : LwP n pre T b) (h1 : 256 ≤ n) (h2 : ((⟨#[c]⟩ : Str) == Str.ofString "\"") = true) : LwP n (pre ++ [(c : Int)]) (T ++ ⟨#[c]⟩) (!b) := by
  have hc : c = 34 := by simpa using is_ch (d := 34) h2
  show lwRun n _ = _
  rw [lw_snoc, h, lwStep, if_pos ⟨(flags_at hb).2.2.2.mpr h1, hc⟩, cd_app, hc]
theorem not_q (hb : Bnd n) (h : ¬ 256 ≤ n ∨ ((⟨#[c]⟩ : Str) == Str.ofString "\"") = false) : ¬ (flag n 256 ∧ c = 34) := by
  rintro ⟨h1, h2⟩
  rcases h with h | h
  · exact h ((flags_at hb).2.2.2.mp h1)
  · have := is_ch (d := 34) h
    simp [h2] at this
theorem lw_in (hb : Bnd n) (h : LwP n pre T true) (hq : ¬ 256 ≤ n ∨ ((⟨#[c]⟩ : Str) == Str.ofString "\"") = false) : LwP n (pre ++ [(c : Int)]) (T ++ ⟨#[c]⟩) true := by
  show lwRun n _ = _
  rw [lw_snoc, h, lwStep, if_neg (not_q hb hq), if_pos rfl, cd_app]
theorem lw_add (hb : Bnd n) (h : LwP n pre T false) (hq : ¬ 256 ≤ n ∨ ((⟨#[c]⟩ : Str) == Str.ofString "\"") = false) (hX : X = St (lwAdd n (cd T) c)) : LwP n (pre ++ [(c : Int)]) (T ++ X) false := by
  show lwRun n _ = _
  rw [lw_snoc, h, lwStep, if_neg (not_q hb hq), if_neg (show ¬ (false = true) by decide), cd_app, hX]
theorem is_blank {v : Bool} (h : occ (Str.ofString " \t") (St [c]) = v) : blank c = !v := by
  rw [occ_bl] at h
  rw [← h]; simp
theorem a_f2 (hb : Bnd n) (hc : occ (Str.ofString " \t") (St [c]) = false) (h2 : (n.fdiv 2).fmod 2 = 1) : Str.ofString "" = St (lwAdd n (cd T) c) := by
  rw [lwAdd, if_pos (show blank c = true from is_blank hc), if_pos ((flags_at hb).1.1.mpr h2)]
  rfl
theorem a_keep (hb : Bnd n) (hc : occ (Str.ofString " \t") (St [c]) = false) (h2 : (n.fdiv 2).fmod 2 ≠ 1) (h16 : (n.fdiv 16).fmod 2 ≠ 1) : St [c] = St (lwAdd n (cd T) c) := by
  rw [lwAdd, if_pos (show blank c = true from is_blank hc), if_neg (fun h => h2 ((flags_at hb).1.1.mp h)), if_neg (fun h => h16 ((flags_at hb).2.1.1.mp h))]
theorem a_none (hb : Bnd n) (hc : occ (Str.ofString " \t") (St [c]) = false) (h2 : (n.fdiv 2).fmod 2 ≠ 1) (h16 : (n.fdiv 16).fmod 2 = 1) (hl : (Txt.slice T (some (-1)) none == Str.ofString " ") = true) : Str.ofString "" = St (lwAdd n (cd T) c) := by
  have := last_is (St_cd T).symm hl
  rw [lwAdd, if_pos (show blank c = true from is_blank hc), if_neg (fun h => h2 ((flags_at hb).1.1.mp h)), if_pos ((flags_at hb).2.1.1.mpr h16), if_pos (by simpa using this)]
  rfl
theorem a_one (hb : Bnd n) (hc : occ (Str.ofString " \t") (St [c]) = false) (h2 : (n.fdiv 2).fmod 2 ≠ 1) (h16 : (n.fdiv 16).fmod 2 = 1) (hl : (Txt.slice T (some (-1)) none == Str.ofString " ") = false) : Str.ofString " " = St (lwAdd n (cd T) c) := by
  have := last_is (St_cd T).symm hl
  rw [lwAdd, if_pos (show blank c = true from is_blank hc), if_neg (fun h => h2 ((flags_at hb).1.1.mp h)), if_pos ((flags_at hb).2.1.1.mpr h16), if_neg (by simpa using this)]
  rfl
theorem a_open (hb : Bnd n) (hc : occ (Str.ofString " \t") (St [c]) = true) (hs : ((⟨#[c]⟩ : Str) == Str.ofString "[") = true) (h64 : (n.fdiv 64).fmod 2 = 1) : Str.ofString "(" = St (lwAdd n (cd T) c) := by
  have hd : c = 91 := by simpa using is_ch (d := 91) hs
  rw [lwAdd, if_neg (by rw [is_blank hc]; decide), if_pos ⟨hd, (flags_at hb).2.2.1.1.mpr h64⟩]
  rfl
theorem not_o (hb : Bnd n) (h : ((⟨#[c]⟩ : Str) == Str.ofString "[") = false ∨ (n.fdiv 64).fmod 2 ≠ 1) : ¬ (c = 91 ∧ flag n 64) := by
  rintro ⟨h1, h2⟩
  rcases h with h | h
  · have := is_ch (d := 91) h
    simp [h1] at this
  · exact h ((flags_at hb).2.2.1.1.mp h2)
theorem a_up (hb : Bnd n) (hc : occ (Str.ofString " \t") (St [c]) = true) (ho : ((⟨#[c]⟩ : Str) == Str.ofString "[") = false ∨ (n.fdiv 64).fmod 2 ≠ 1) (h32 : (n.fdiv 32).fmod 2 = 1) : St [upc c] = St (lwAdd n (cd T) c) := by
  rw [lwAdd, if_neg (by rw [is_blank hc]; decide), if_neg (not_o hb ho), if_pos ((flags_at hb).2.1.2.mpr h32)]
theorem a_same (hb : Bnd n) (hc : occ (Str.ofString " \t") (St [c]) = true) (ho : ((⟨#[c]⟩ : Str) == Str.ofString "[") = false ∨ (n.fdiv 64).fmod 2 ≠ 1) (h32 : (n.fdiv 32).fmod 2 ≠ 1) : St [c] = St (lwAdd n (cd T) c) := by
  rw [lwAdd, if_neg (by rw [is_blank hc]; decide), if_neg (not_o hb ho), if_neg (fun h => h32 ((flags_at hb).2.1.2.mp h))]
end
theorem strip_len (l : List Nat) : (lstrip l).length ≤ l.length := by
  induction l with
  | nil => exact Nat.le_refl _
  | cons c r ih =>
    cases hb : blank c with
    | true => rw [lstrip_cons r c hb, List.length_cons]; omega
    | false => rw [lstrip_cons_ne r c hb]; exact Nat.le_refl _
section
variable {n : Int} {x T : Str} {l : List Nat} {b : Bool}
theorem lw_alpha (ha : Alpha x) (hl : l = if flag n 8 then lstrip (cd x) else cd x) : AlphaL l := by
  rw [hl]; split
  · exact fun c hc => ha c (lstrip_mem _ c hc)
  · exact ha
theorem lw_short (hx : x.length ≤ 100) (hl : l = if flag n 8 then lstrip (cd x) else cd x) : (St l).length ≤ 100 := by
  have h := strip_len (cd x)
  have h2 := cd_len x
  rw [St_len, hl]; split <;> lia
theorem lw_run (h : LwP n (KStt.codes (St l)) T b) : lwRun n l = (cd T, b) := by
  have := codes_nat (St l)
  rw [LwP, this] at h
  exact h
theorem lw_end1 (hb : Bnd n) (ha : Alpha x) (hl : l = if flag n 8 then lstrip (cd x) else cd x) (h : LwP n (KStt.codes (St l)) T false) (h128 : (n.fdiv 128).fmod 2 = 1) {y : Str} (hy : y = St (rstrip (cd T))) : y = St (edOut n (cd x)) := by
  rw [ed_law ha hl, lw_run h, if_pos ⟨(flags_at hb).2.2.1.2.mpr h128, rfl⟩, hy]
theorem lw_end2 (hb : Bnd n) (ha : Alpha x) (hl : l = if flag n 8 then lstrip (cd x) else cd x) (h : LwP n (KStt.codes (St l)) T b) (h128 : (n.fdiv 128).fmod 2 ≠ 1 ∨ b = true) : T = St (edOut n (cd x)) := by
  rw [ed_law ha hl, lw_run h, if_neg, St_cd]
  rintro ⟨h1, h2⟩
  rcases h128 with h | h
  · exact h ((flags_at hb).2.2.1.2.mp h1)
  · rw [h] at h2; cases h2
theorem f8_yes (hb : Bnd n) (h8 : (n.fdiv 8).fmod 2 = 1) {R : List Nat} (h : R = lstrip (cd x)) : R = if flag n 8 then lstrip (cd x) else cd x := by rw [if_pos ((flags_at hb).1.2.mpr h8)]; exact h
theorem f8_no (hb : Bnd n) (h8 : (n.fdiv 8).fmod 2 ≠ 1) : cd x = if flag n 8 then lstrip (cd x) else cd x := by rw [if_neg (fun h => h8 ((flags_at hb).1.2.mp h))]
end
end Mine
end
section
namespace Mine
theorem lay_K9 : True := by w_top off; k_with_none; (k_with "ktr_room" => (first | exact rm1 (by assumption) (by decide) | exact rm0 (by assumption) | exact rm2 (by assumption) (by decide) | exact rm3 (by assumption) (by decide) | exact rm4 (by assumption) (by decide))); (k_with "ktr_units" => (first | exact rm1 (by assumption) (by decide) | exact rm0 (by assumption) | exact rm2 (by assumption) (by decide) | exact rm3 (by assumption) (by decide) | exact rm4 (by assumption) (by decide))); (k_with "k_ne" => (first | assumption | (refine neN ?_; (try dsimp only); first | (refine Nat.ne_of_lt ?_; k_extra "kn"; done) | (refine Nat.ne_of_gt ?_; k_extra "kn"; done) | lia | omega))); (k_with "kn" => (repeat (first | with_reducible assumption | exact an0 (by with_reducible assumption) | exact an1 (by with_reducible assumption) | exact an2 (by with_reducible assumption) | exact an3 (by with_reducible assumption) | exact an4 (by with_reducible assumption) | exact an5 (by with_reducible assumption) | exact an6 (by with_reducible assumption) | exact an7 (by with_reducible assumption) | exact an8 (by with_reducible assumption) | exact ae1 (by with_reducible assumption) | exact ae2 (by with_reducible assumption) | exact ae3 (by with_reducible assumption) | exact ae4 (by with_reducible assumption) | exact ae5 (by with_reducible assumption) | exact ae6 (by with_reducible assumption) | exact ae7 (by with_reducible assumption) | exact ae8 (by with_reducible assumption) | exact Nat.lt_succ_self _ | refine lsu ?_))); (k_with "cF" => ((case kF => k_asm); (case kB => k_asm); (case kX => k_asm); (case kT => k_asm); (case kk => exact rfl))); (k_with "cH" => ((case hd => ktr_room); (case hu => ktr_units))); (k_with "cX" => ((case XB => assumption); (case TB => assumption); (case kD => assumption); (case T0 => first | assumption | exact KtsTurn.refl))); (k_with "So" => ((with_reducible show Stop _); refine Stop.of ?_)); (k_with "omega" => ((k_whole; first | ((with_reducible show (_ : Int) ≤ _); first | with_reducible assumption | decide | exact Int.le_trans (by with_reducible assumption) (by decide) | exact Int.le_trans (Int.le_of_lt (by with_reducible assumption)) (by decide) | exact ile (by with_reducible assumption) (by decide) | ((with_reducible show ((_ : Nat) : Int) ≤ _); exact Int.le_trans (Int.ofNat_le.mpr (by with_reducible assumption)) (by decide)) | exact Int.natCast_nonneg _) | ((with_reducible show (_ : Int) < _); first | with_reducible assumption | decide | exact Int.lt_of_le_of_lt (by with_reducible assumption) (by decide) | exact Int.lt_of_lt_of_le (by with_reducible assumption) (by decide) | exact ilt (by with_reducible assumption) (by decide) | ((with_reducible show ((_ : Nat) : Int) < _); exact Int.lt_of_le_of_lt (Int.ofNat_le.mpr (by with_reducible assumption)) (by decide))) | ((with_reducible show (_ : Nat) ≤ _); first | with_reducible assumption | exact Nat.le_of_ble_eq_true rfl | exact Nat.le_trans (by with_reducible assumption) (by decide)) | ((with_reducible show ¬ ((_ : Int) ≥ _)); refine Int.not_le.mpr ?_; omega) | ((with_reducible show _ ∧ _); refine And.intro ?_ ?_ <;> omega) | (law_clear; lia)))); (k_with "subscriptTail Name Constant ref int" => ((k_here; (with_reducible show wpAny _ _ (subscriptTail _ _ (Value.ref _) (Value.int _ _)) _ _ _); (with_unfolding_all refine' item_litK ?_ ?_ ?_ ?_ ?_ ?_; rotate_right 6; (focus ((is_list); done)); (decide); (decide); (rfl); (rotate_left 1; (with_unfolding_all rfl); rotate_right 1); k_whole)))); (k_with "ite" => ((k_closed; k_dflt (first | refine ite_pos (by decide +kernel) ?_ | refine ite_neg (by decide +kernel) ?_)))); (k_with "call builtin:isinstance" => (first | with_reducible refine IsiPair.int_str ?_ | with_reducible refine IsiPair.int_tuple ?_ | with_reducible refine IsiPair.str_str ?_ | with_reducible refine IsiPair.str_tuple ?_)); (k_with "storeName" => ((k_here; k_dflt (refine' storeX_L ?_ ?_ ?_ ?_ ?_; rotate_right 5; (rotate_left 4; (kernel_rfl!); rotate_right 4); (k_asm); (k_asm); (rotate_left 1; (rfl); rotate_right 1); k_whole; intro _ _ _; (try k_sweep))))); (k_with "eval Name" => ((k_here; (fail_if_success (with_reducible show wpAny _ _ (eval (PySem.Expr.Name _ _) (compEnvC _ _ _ _)) _ _ _)); name_kind "cell"; k_dflt (refine' nameX_C ?_ ?_ ?_ ?_ ?_ ?_ ?_ ?_; rotate_right 8; (rotate_left 5; (rfl); rotate_right 5); (rotate_left 5; (kernel_rfl); rotate_right 5); (k_asm); (rfl); (focus ((k_mem); done)); (k_asm); (rotate_left 1; (kernel_rfl); rotate_right 1); k_whole)))); (k_with "eval Name" => ((k_here; (fail_if_success (with_reducible show wpAny _ _ (eval (PySem.Expr.Name _ _) (compEnvC _ _ _ _)) _ _ _)); name_kind "globalImplicit"; k_dflt (first | ((refine' nameX_K ?_ ?_ ?_ ?_ ?_ ?_ ?_ ?_; rotate_right 8; (rotate_left 6; (kernel_rfl); rotate_right 6); (k_asm); (k_asm); (k_asm); (rotate_left 2; (rfl); rotate_right 2); (rotate_left 2; (kernel_rfl); rotate_right 2); (focus ((k_is); done)); k_whole)) | ((refine' nameX_B ?_ ?_ ?_ ?_ ?_ ?_ ?_ ?_ ?_ ?_; rotate_right 10; (rotate_left 8; (kernel_rfl); rotate_right 8); (k_asm); (k_asm); (k_asm); (rotate_left 4; (rfl); rotate_right 4); (rotate_left 4; (kernel_rfl); rotate_right 4); (focus ((k_is); done)); (focus ((boot_fast); done)); (decide +kernel); k_whole)))))); (k_with "eval Name" => ((k_here; (fail_if_success (with_reducible show wpAny _ _ (eval (PySem.Expr.Name _ _) (compEnvC _ _ _ _)) _ _ _)); name_kind "local"; k_dflt (refine' nameX_L ?_ ?_ ?_ ?_ ?_ ?_; rotate_right 6; (rotate_left 4; (kernel_rfl); rotate_right 4); (k_asm); (rotate_left 2; (rfl); rotate_right 2); (rotate_left 2; (kernel_rfl); rotate_right 2); (focus ((((repeat (first | with_reducible exact nm_hit | ((with_reducible refine Eq.trans (nm_miss ?_) ?_; kernel_rfl)))); (try rfl))); done)); k_whole)))); (k_with "exec Raise some none" => ((k_here; k_dflt (refine' raise_leave ?_ ?_ ?_ ?_ ?_ ?_ ?_ ?_ ?_ ?_; rotate_right 10; (k_asm); (k_asm); (k_asm); (k_asm); (k_asm); (exact rfl); (ktr_room); (rotate_left 1; (exact rfl); rotate_right 1); (rotate_left 1; (exact rfl); rotate_right 1)); intro _ _ _ _ _; (try dsimp only)))); (k_with "leaving ref" => ((k_here; k_dflt (refine' leave_next ?_ ?_ ?_ ?_ ?_; rotate_right 5; (rotate_left 2; (assumption); rotate_right 2); (rotate_left 1; (assumption); rotate_right 1); (assumption); (assumption)); intro _ _ _; (try dsimp only)))); (have : (0 : Nat) ≤ 1 := by (first | (walk1; done) | decide)); trivial
theorem OK9.gdK9 : True := trivial
open OK9
theorem wd_K9_2 : True := by (k_with "execs cons" => (k_here; (with_reducible show wpAny _ _ (execs (_ :: _) _) _ _ _); (try k_made); (refine execsYg ?_); intro _ _)); (k_with "execs cons" => (k_here; (with_reducible show wpAny _ _ (execs (_ :: _) _) _ _ _); (fail_if_success (with_reducible refine gGq GI.z ?_)); (try k_made); k_dflt (refine' withG ?_ ?_ ?_ ?_; rotate_right 4; (k_asm); (k_asm); (rfl); k_whole); intro _ _ _ gGq)); (k_with "exec Assign" => (k_here; refine Assign_NameF ?_)); (k_with "exec Return some" => (k_here; refine Return_someF ?_)); (k_with "eval BinOp" => (first | (k_here; k_compRoot) | refine BinOpF ?_)); (k_with "eval Subscript" => (first | (k_here; k_compRoot) | refine SubscriptF ?_)); (k_with "eval List" => (first | (k_here; k_compRoot) | refine ListF ?_)); (k_with "eval Tuple" => (first | (k_here; k_compRoot) | refine TupleF ?_)); (k_with "callWith" => (refine callWith_biF ?_)); (k_with "spliced" => (k_here; (refine args_consG ?_); intro _)); (k_with "spliced" => (k_here; (with_reducible refine args_nil ?_); (try dsimp only [List.cons_append, List.nil_append]))); (k_with "spliced" => (k_here; (with_reducible show wpAny _ _ (spliced (backTo _ (starEach (PySem.Expr.Name _ _ :: _) _))) _ _ _); (with_reducible refine' gGq GI.a ?_ ?_ ?_ ?_; rotate_right 4); k_dflt ((rotate_left 1; (kernel_rfl); rotate_right 1); (k_asm); (focus ((((repeat (first | with_reducible exact nm_hit | ((with_reducible refine Eq.trans (nm_miss ?_) ?_; kernel_rfl)))); (try rfl))); done)); k_whole))); (k_with "spliced" => (k_here; (with_reducible show wpAny _ _ (spliced (backTo _ (starEach (PySem.Expr.Constant _ _ _ :: _) _))) _ _ _); (first | with_reducible refine gGq GI.i ?_ | with_reducible refine gGq GI.t ?_))); (k_with "spliced" => (k_here; (with_reducible show wpAny _ _ (spliced (backTo _ (starEach [] _))) (KCons _ _) _ _); k_dflt (first | ((with_reducible refine' gGq GI.n1 ?_ ?_ ?_; rotate_right 3; (k_asm); (k_asm))) | ((with_reducible refine' gGq GI.n2 ?_ ?_ ?_; rotate_right 3; (k_asm); (k_asm))) | ((with_reducible refine' gGq GI.n3 ?_ ?_ ?_; rotate_right 3; (k_asm); (k_asm))) | ((with_reducible refine' gGq GI.n4 ?_ ?_ ?_; rotate_right 3; (k_asm); (k_asm))) | with_reducible refine gGq GI.b1 ?_ | with_reducible refine gGq GI.b2 ?_ | with_reducible refine gGq GI.l1 ?_ | with_reducible refine gGq GI.l2 ?_ | with_reducible refine gGq GI.l3 ?_ | with_reducible refine gGq GI.t1 ?_ | with_reducible refine gGq GI.t2 ?_ | with_reducible refine gGq GI.t3 ?_))); (k_with "eval Name" => (k_here; (fail_if_success (with_reducible show wpAny _ _ (eval (PySem.Expr.Name _ _) (compEnvC _ _ _ _)) _ _ _)); name_kind "local"; (with_reducible refine' gGq GI.l ?_ ?_ ?_ ?_; rotate_right 4); k_dflt ((rotate_left 1; (kernel_rfl); rotate_right 1); (k_asm); (focus ((((repeat (first | with_reducible exact nm_hit | ((with_reducible refine Eq.trans (nm_miss ?_) ?_; kernel_rfl)))); (try rfl))); done)); k_whole))); (k_with "storeName" => (k_here; (first | ((with_reducible refine' gGq GI.p ?_ ?_ ?_ ?_; rotate_right 4)) | ((with_reducible refine' gGq GI.r ?_ ?_ ?_ ?_; rotate_right 4))); k_dflt ((rotate_left 2; (kernel_rfl!); rotate_right 2); (k_asm); (k_asm); k_whole; intro _ _ _; (try k_sweep)))); (k_with "eval Call" => (k_here; (with_reducible show wpAny _ _ (eval (PySem.Expr.Call (PySem.Expr.Name _ _) (_ :: _) [] _) _) _ _ _); k_dflt (first | (((with_reducible refine' gGq GI.k ?_ ?_ ?_ ?_ ?_ ?_ ?_ ?_; rotate_right 8); (rotate_left 3; (kernel_rfl); rotate_right 3); (k_asm); (k_asm); (k_asm); (focus ((k_is); done)); (focus ((k_is); done)); (rfl); k_whole)) | (((fail_if_success (with_reducible first | show wpAny _ _ (eval (PySem.Expr.Call (PySem.Expr.Name (PySem.Str.ofString "range") _) _ _ _) _) _ _ _ | show wpAny _ _ (eval (PySem.Expr.Call (PySem.Expr.Name (PySem.Str.ofString "str") _) _ _ _) _) _ _ _ | show wpAny _ _ (eval (PySem.Expr.Call (PySem.Expr.Name (PySem.Str.ofString "enumerate") _) _ _ _) _) _ _ _ | show wpAny _ _ (eval (PySem.Expr.Call (PySem.Expr.Name (PySem.Str.ofString "list") _) _ _ _) _) _ _ _ | show wpAny _ _ (eval (PySem.Expr.Call (PySem.Expr.Name (PySem.Str.ofString "int") _) _ _ _) _) _ _ _ | show wpAny _ _ (eval (PySem.Expr.Call (PySem.Expr.Name (PySem.Str.ofString "tuple") _) _ _ _) _) _ _ _)); (with_reducible refine' gGq GI.b ?_ ?_ ?_ ?_ ?_ ?_ ?_ ?_ ?_; rotate_right 9); (rotate_left 3; (kernel_rfl); rotate_right 3); (k_asm); (k_asm); (k_asm); (focus ((k_is); done)); (focus ((boot_fast); done)); (decide +kernel); (rfl); k_whole))))); (k_with "enter" => (k_dflt (refine' codeG ?_ ?_ ?_ ?_ ?_ ?_ ?_ ?_ ?_ ?_ ?_ ?_ ?_ ?_ ?_ ?_ ?_ ?_; rotate_right 18; (rotate_left 5; (exact rfl); rotate_right 5); (rotate_left 5; (exact rfl); rotate_right 5); (rotate_left 5; (focus ((first | assumption | exact rfl); done)); rotate_right 5); (k_asm); (k_asm); (k_asm); (k_asm); (k_asm); (focus ((k_is); done)); (focus ((k_is); done)); (focus ((k_room); done)); (exact BindsTo.of_eq rfl); (rotate_left 5; (decide); rotate_right 5); (exact locs rfl); (rotate_left 1; (exact rfl); rotate_right 1); (rotate_left 1; (exact rfl); rotate_right 1); (rotate_left 1; (exact rfl); rotate_right 1); k_whole; intro _ _ _ _ _ _ _ _ _ _ _ gBq _ _ gGq; (try k_lift gBq)))); (k_with "call ref" => (k_here; k_extra "enter")); trivial
theorem wd_K9_3 : True := by (k_with "pyIter str" => ((fail_if_success (fail_if_success (have : True := gdK9))); ((refine Stop.go ?_)))); (k_with "exec For Name Name cons nil" => ((fail_if_success (fail_if_success (have : True := gdK9))); ((k_here; (rename Fr _ _ _ _ => lF'); (with_unfolding_all refine' For_invVF lF' ?_ ?_ ?_; rotate_right 3; (exact rfl); (exact rfl); k_whole))))); (k_with "binaryOp Add str str" => ((fail_if_success (fail_if_success (have : True := gdK9))); ((k_here; (with_reducible show wpAny _ _ (binaryOp Operator.Add (Value.str _ _) (Value.str _ _)) _ _ _); (refine SB.add (hsz := add_fits (by first | exact Nat.le_of_ble_eq_true rfl | exact Nat.le_trans (by assumption) (by decide) | omega) (by first | exact Nat.le_of_ble_eq_true rfl | exact Nat.le_trans (by assumption) (by decide) | omega)) ?_); intro _ _)))); (k_with "exec While BoolOp" => ((fail_if_success (fail_if_success (have : True := gdK9))); ((refine Stop.go ?_)))); (k_with "exec While BoolOp cons nil" => ((fail_if_success (fail_if_success (have : True := gdK9))); ((refine Stop.go ?_)))); (k_with "execs cons" => ((fail_if_success (fail_if_success (have : True := gdK9))); ((k_here; (with_reducible show wpAny _ _ (execs [Stmt.If _ _ _ _, _, _, _, _] _) _ _ _); refine Stop.go ?_)))); (k_with "call builtin:str.upper" => ((fail_if_success (fail_if_success (have : True := gdK9))); ((k_here; k_dflt (refine' upper_at ?_ ?_; rotate_right 2; (with_reducible assumption)); intro tup)))); (k_with "state" => (first | exact ⟨rfl, by omega⟩ | with_reducible exact lst_step (by assumption) (by assumption) (by assumption) | with_reducible exact fst_step (by assumption) (by assumption) (by assumption))); (k_with "InvEndN" => ((fail_if_success (fail_if_success (have : True := gdK9))); ((refine Stop.go ?_)))); (k_with "measure" => (first | with_reducible exact lst_less (by assumption) | with_reducible exact fst_less (by assumption))); trivial
theorem c_lawed {w : World} {mean : ExcName → Option Value} {mg mb : Str → Option Value} {news : List (Addr × Obj)} {x : Str} {n : Int} {t u : Tok} : Ct w mean mg mb 429 35 (news) (x.length ≤ 100 ∧ Alpha x ∧ 0 ≤ n ∧ n < 512) [.str x t, .int n u] (RetO w news (.val (fun t => .str (St (edOut n (cd x))) t))) := by
  refine shed ?_ fun _ n h => ?_
  focus (
  intro dp un gd cn cs a ccd cl outer A₀ base h₀ L m s Q E B F X N T hk hpre hd hu hret
  first | (refine and4 hpre ?_; clear hpre; intro hx hal hn0 hn1) | obtain ⟨hx, hal, hn0, hn1⟩ := hpre
  have hv : True → _ := fun _ => hret
  clear hret
  dsimp only [RetV, RetO] at hv
  k_extra "enter"
  k_steps
  k_extra "So"
  k_here
  (rename Fr _ _ _ _ => fA)
  (rename News _ _ _ _ => nA)
  refine' execs_midF fA nA (Str.ofString "text") (fun l => l = if flag n 8 then lstrip (cd x) else cd x) ?h1 ?h2
  case h1 =>
    k_steps
    · k_extra "So"; k_here
      (k_while (fun _ y => lstrip (cd y) = lstrip (cd x) ∧ y.length ≤ 100) (fun _ y => y.length) "text")
      all_goals k_steps
      all_goals first
        | exact (fst_none (by assumption) (by assumption)).elim
        | ((rename Fr _ _ _ _ => fE); (rename News _ _ _ _ => nE); exact EdMid.put (cd _) fE (kst_newsOf nE (fun p hp => by first | exact hp | exact .tail _ hp | exact tl2 hp | exact tl3 hp)) (f8_yes ⟨hn0, hn1⟩ (by assumption) (fst_stop (by assumption) (by assumption))))
    · (rename Fr _ _ _ _ => fE); (rename News _ _ _ _ => nE)
      exact EdMid.keep (cd x) fE rfl nE (f8_no ⟨hn0, hn1⟩ (by assumption))
  case h2 =>
    intro hB tkB l tB fB nB hQ
    have hla := lw_alpha hal hQ
    have hls := lw_short hx hQ
    k_steps
    k_extra "So"; k_here
    (rename Fr _ _ _ _ => hF)
    (rename News _ _ _ _ => hN)
    k_dflt (refine' KStt.kst_text (σ := (Str × Tok) × Bool) (fun _ => _) (fun c => [(Str.ofString "told", .str c.1.1 c.1.2), (Str.ofString "is_within", .bool c.2)]) (fun _ => True) [] (fun pre c => LwP n pre c.1.1 c.2) ((Str.ofString "", _), false) rfl hF hN trivial ?a0 rfl ?a1 ?a2)
    case a0 => kst_all
    case a1 =>
      refine pr3 ?_; intro T tT b pre post c t u h tk own hcodes hoff _ hP F2 N2
      dsimp only at hP F2 N2
      dsimp only [List.cons_append] at N2
      have hc := hla c (codes_mem hcodes)
      have hT : T.length ≤ 1000 := Nat.le_trans (lw_fit hP) (Nat.le_trans (Nat.le_of_lt (codes_pre hcodes hls)) (by decide))
      cases b
      all_goals k_steps
      all_goals (k_extra "So")
      all_goals (rename Fr _ _ _ _ => fE; rename News _ _ _ _ => nE)
      all_goals first
        | (refine' kst_end ((_, _), _) fE nE ?m1 ?m2 rfl trivial ?hk ?hr (lw_quote ⟨hn0, hn1⟩ hP (by with_reducible assumption) (by with_reducible assumption)); (case hk => kst_all); (case m1 => (intro p hp; have hq := List.mem_append_left own hp; first | exact hq | exact .tail _ hq)); (case m2 => (intro p hp; have hq := List.mem_append_right news hp; first | exact .tail _ hq | exact tl2 hq)); (case hr => (intro z h1 h2 h3; have ha := h2 _ (.head _); have hb := h2 _ (.tail _ (.head _)); dsimp only at ha hb; simp [kstB, h1, ha, hb])))
        | (refine' kst_end ((_, _), _) fE nE ?m1 ?m2 rfl trivial ?hk ?hr (lw_in ⟨hn0, hn1⟩ hP (by first | exact .inl (by with_reducible assumption) | exact .inr (by with_reducible assumption))); (case hk => kst_all); (case m1 => (intro p hp; have hq := List.mem_append_left own hp; first | exact hq | exact .tail _ hq)); (case m2 => (intro p hp; have hq := List.mem_append_right news hp; first | exact .tail _ hq | exact tl2 hq)); (case hr => (intro z h1 h2 h3; have ha := h2 _ (.head _); have hb := h2 _ (.tail _ (.head _)); dsimp only at ha hb; simp [kstB, h1, ha, hb])))
        | (refine' kst_end ((_, _), _) fE nE ?m1 ?m2 rfl trivial ?hk ?hr (lw_add ⟨hn0, hn1⟩ hP (by first | exact .inl (by with_reducible assumption) | exact .inr (by with_reducible assumption)) (a_f2 ⟨hn0, hn1⟩ (by with_reducible assumption) (by with_reducible assumption))); (case hk => kst_all); (case m1 => (intro p hp; have hq := List.mem_append_left own hp; first | exact hq | exact .tail _ hq)); (case m2 => (intro p hp; have hq := List.mem_append_right news hp; first | exact .tail _ hq | exact tl2 hq)); (case hr => (intro z h1 h2 h3; have ha := h2 _ (.head _); have hb := h2 _ (.tail _ (.head _)); dsimp only at ha hb; simp [kstB, h1, ha, hb])))
        | (refine' kst_end ((_, _), _) fE nE ?m1 ?m2 rfl trivial ?hk ?hr (lw_add ⟨hn0, hn1⟩ hP (by first | exact .inl (by with_reducible assumption) | exact .inr (by with_reducible assumption)) (a_keep ⟨hn0, hn1⟩ (by with_reducible assumption) (by with_reducible assumption) (by with_reducible assumption))); (case hk => kst_all); (case m1 => (intro p hp; have hq := List.mem_append_left own hp; first | exact hq | exact .tail _ hq)); (case m2 => (intro p hp; have hq := List.mem_append_right news hp; first | exact .tail _ hq | exact tl2 hq)); (case hr => (intro z h1 h2 h3; have ha := h2 _ (.head _); have hb := h2 _ (.tail _ (.head _)); dsimp only at ha hb; simp [kstB, h1, ha, hb])))
        | (refine' kst_end ((_, _), _) fE nE ?m1 ?m2 rfl trivial ?hk ?hr (lw_add ⟨hn0, hn1⟩ hP (by first | exact .inl (by with_reducible assumption) | exact .inr (by with_reducible assumption)) (a_none ⟨hn0, hn1⟩ (by with_reducible assumption) (by with_reducible assumption) (by with_reducible assumption) (by with_reducible assumption))); (case hk => kst_all); (case m1 => (intro p hp; have hq := List.mem_append_left own hp; first | exact hq | exact .tail _ hq)); (case m2 => (intro p hp; have hq := List.mem_append_right news hp; first | exact .tail _ hq | exact tl2 hq)); (case hr => (intro z h1 h2 h3; have ha := h2 _ (.head _); have hb := h2 _ (.tail _ (.head _)); dsimp only at ha hb; simp [kstB, h1, ha, hb])))
        | (refine' kst_end ((_, _), _) fE nE ?m1 ?m2 rfl trivial ?hk ?hr (lw_add ⟨hn0, hn1⟩ hP (by first | exact .inl (by with_reducible assumption) | exact .inr (by with_reducible assumption)) (a_one ⟨hn0, hn1⟩ (by with_reducible assumption) (by with_reducible assumption) (by with_reducible assumption) (by with_reducible assumption))); (case hk => kst_all); (case m1 => (intro p hp; have hq := List.mem_append_left own hp; first | exact hq | exact .tail _ hq)); (case m2 => (intro p hp; have hq := List.mem_append_right news hp; first | exact .tail _ hq | exact tl2 hq)); (case hr => (intro z h1 h2 h3; have ha := h2 _ (.head _); have hb := h2 _ (.tail _ (.head _)); dsimp only at ha hb; simp [kstB, h1, ha, hb])))
        | (refine' kst_end ((_, _), _) fE nE ?m1 ?m2 rfl trivial ?hk ?hr (lw_add ⟨hn0, hn1⟩ hP (by first | exact .inl (by with_reducible assumption) | exact .inr (by with_reducible assumption)) (a_open ⟨hn0, hn1⟩ (by with_reducible assumption) (by with_reducible assumption) (by with_reducible assumption))); (case hk => kst_all); (case m1 => (intro p hp; have hq := List.mem_append_left own hp; first | exact hq | exact .tail _ hq)); (case m2 => (intro p hp; have hq := List.mem_append_right news hp; first | exact .tail _ hq | exact tl2 hq)); (case hr => (intro z h1 h2 h3; have ha := h2 _ (.head _); have hb := h2 _ (.tail _ (.head _)); dsimp only at ha hb; simp [kstB, h1, ha, hb])))
        | (refine' kst_end ((_, _), _) fE nE ?m1 ?m2 rfl trivial ?hk ?hr (lw_add ⟨hn0, hn1⟩ hP (by first | exact .inl (by with_reducible assumption) | exact .inr (by with_reducible assumption)) (a_up ⟨hn0, hn1⟩ (by with_reducible assumption) (by first | exact .inl (by with_reducible assumption) | exact .inr (by with_reducible assumption)) (by with_reducible assumption))); (case hk => kst_all); (case m1 => (intro p hp; have hq := List.mem_append_left own hp; first | exact hq | exact .tail _ hq)); (case m2 => (intro p hp; have hq := List.mem_append_right news hp; first | exact .tail _ hq | exact tl2 hq)); (case hr => (intro z h1 h2 h3; have ha := h2 _ (.head _); have hb := h2 _ (.tail _ (.head _)); dsimp only at ha hb; simp [kstB, h1, ha, hb])))
        | (refine' kst_end ((_, _), _) fE nE ?m1 ?m2 rfl trivial ?hk ?hr (lw_add ⟨hn0, hn1⟩ hP (by first | exact .inl (by with_reducible assumption) | exact .inr (by with_reducible assumption)) (a_same ⟨hn0, hn1⟩ (by with_reducible assumption) (by first | exact .inl (by with_reducible assumption) | exact .inr (by with_reducible assumption)) (by with_reducible assumption))); (case hk => kst_all); (case m1 => (intro p hp; have hq := List.mem_append_left own hp; first | exact hq | exact .tail _ hq)); (case m2 => (intro p hp; have hq := List.mem_append_right news hp; first | exact .tail _ hq | exact tl2 hq)); (case hr => (intro z h1 h2 h3; have ha := h2 _ (.head _); have hb := h2 _ (.tail _ (.head _)); dsimp only at ha hb; simp [kstB, h1, ha, hb])))
    case a2 =>
      refine pr3 ?_; intro T tT b u h tk _ hP F2 N2
      dsimp only at hP F2 N2
      simp only [kstB] at F2
      have hT : T.length ≤ 100 := by have := lw_fit hP; rw [KStt.codes_length] at this; omega
      cases b
      · k_steps
        · k_extra "So"; k_here
          (k_while (fun _ y => rstrip (cd y) = rstrip (cd T) ∧ y.length ≤ 100) (fun _ y => y.length) "told")
          all_goals k_steps
          all_goals first
            | exact (lst_none (by assumption) (by assumption)).elim
            | exact end_str hv True.intro (lw_end1 ⟨hn0, hn1⟩ hal hQ hP (by assumption) (lst_stop (by assumption) (by assumption))) (by k_asm) (by k_asm) (fun p hp => by first | exact hp | exact .tail _ hp | exact tl2 hp | exact tl3 hp)
        · exact end_str hv True.intro (lw_end2 ⟨hn0, hn1⟩ hal hQ hP (.inl (by assumption))) (by k_asm) (by k_asm) (fun p hp => by first | exact hp | exact .tail _ hp | exact tl2 hp | exact tl3 hp)
      · k_steps
        all_goals exact end_str hv True.intro (lw_end2 ⟨hn0, hn1⟩ hal hQ hP (.inr rfl)) (by k_asm) (by k_asm) (fun p hp => by first | exact hp | exact .tail _ hp | exact tl2 hp | exact tl3 hp)
  )
  simpa using pick n 5 h
end Mine
end
section
open PySem.Spec
namespace Mine
open PyProof.Rows.LCg (NsObj ns_obj lst lst_snoc Off3 Off1 CompEnd fr_but news_but FinE SrcAt range_walks range_st list_st)
inductive CSrcU (prog : Program) (w : World) (A : Around) (h₀ : Heap) (L : Addr) (m : Str → Option Value) (env : Env) (elt : Expr) (x : Str) (ifs : List Expr) (scope : Scope) (cl : List (Str × Addr)) (Q : Value → Shared → Prop) (xv : Value) (s₁ : Shared) : Prop where
  | mk0 (n : Nat) (S : List (Addr × Obj) → Prop) (P : Nat → Value → Prop) (Inv : Nat → List Value → List (Addr × Obj) → Prop) (news : List (Addr × Obj)) (h1 : A.handled = none) (h2 : Fr h₀ L s₁.heap m) (h3 : News h₀ L s₁.heap news) (h4 : n ≤ sizeLine) (h5 : S news) (h6 : (∀ i ys nw, Inv i ys nw → ys.length ≤ i)) (h7 : Inv 0 [] news) (h8 : (∀ g, Turn prog w A h₀ L m env elt x ifs scope cl { s₁ with heap := g } S P Inv n)) (h9 : (∀ g ys nw, S nw → Inv n ys nw → FinE h₀ L m { s₁ with heap := g } Q ys nw)) (h10 : (∃ ax its kk, xv = .ref ax ∧ n = its.size ∧ (∀ nw, S nw → (ax, ({ cls := .type "tuple", data := .seq its kk } : Obj)) ∈ nw) ∧ P = (fun i v => its[i]? = some v)))
section
variable {prog : Program} {w : World} {A : Around} {E : Value → Shared → Prop} {s : Shared} {h₀ : Heap} {L : Addr} {m : Str → Option Value} {env : Env}
theorem comp_invU {elt iter : Expr} {x : Str} {px : Pos} {ifs : List Expr} {scope : Scope} {cl : List (Str × Addr)} {pos : Pos} {Q : Value → Shared → Prop} (_F₀ : Fr h₀ L s.heap m)
    (hclos : closureFor scope env = pure cl) (hcell : ∀ y ∈ scope.names, y.2 ≠ .cell) (hkind : scope.kind = .function)
    (hnames : ∀ y ∈ scope.names, y.2 = .local → scope.names.lookup y.1 = some .local) (hx : scope.names.lookup x = some .local)
    (h : wpAny (model prog w) A (eval iter env) (CSrcU prog w A h₀ L m env elt x ifs scope cl Q) E s)
    (hs : ∀ x, foldedSetIterable iter env x = pure x := by intro _; rfl) :
    wpAny (model prog w) A (eval (.ListComp elt [⟨.Name x px, iter, ifs, 0⟩] scope pos) env) Q E s := by
  rw [eval_ListComp]
  refine wpAny_comprehension_free (use := none) rfl hs hclos hkind hnames (wpAny_mono h (fun xv s₁ h₁ => ?_) fun _ _ e => e)
  first | (refine and15 h₁ ?_; clear h₁; intro n S P Inv news hh F N hsz hS hlen h0 turn fin src) | obtain ⟨n, S, P, Inv, news, hh, F, N, hsz, hS, hlen, h0, turn, fin, src⟩ := h₁
  have last : ∀ g : Heap, ∀ (D C : Addr) (h : Heap) (tk : Nat) (m' : Str → Option Value) (ys : List Value) (news' : List (Addr × Obj)), Fr h₀ L h m → News h₀ L h ((D, lst ys) :: news') → Off1 D news' → h.Ns C m' → h₀.get? C = none → h₀.get? D = none → C ≠ L → D ≠ L → C ≠ D → (∀ p ∈ news', p.1 ≠ C) → S news' → Inv n ys news' →
      compPost (model prog w) A E none Q (.ref D) C (.ok .next) { s₁ with heap := h, toks := tk } := by
    intro g D C h tk m' ys news' F' N' o1 hn hC₀ hD₀ hCL hDL hCD offC hS' hi
    refine ⟨m', hn, fun h'' hs'' => fin g ys news' hS' hi D h'' tk (F'.change hs'' hCL hC₀) (fun p hp => ?_) o1⟩
    refine ⟨hs''.extBut _ _ ?_ (N' p hp).1, (N' p hp).2⟩
    rcases List.mem_cons.mp hp with rfl | hp
    · exact Ne.symm hCD
    · exact offC p hp
  obtain ⟨ax, its, kk, rfl, rfl, hS2, rfl⟩ := src
  have hl : s₁.heap.IsTuple ax its := ⟨_, (N _ (hS2 _ hS)).1, rfl, _, rfl⟩
  have hlt : ax < s₁.heap.objs.size := by obtain ⟨_, e, _⟩ := hl; exact Heap.lt_size e
  refine wpAny_pyIter_tuple hl ?_
  have up : ∀ b o, s₁.heap.get? b = some o → (s₁.heap.push { cls := .type "tuple_iterator", data := .fields #[.ref ax, .int 0 0] }).get? b = some o := fun b o e => Heap.get?_push_of_some _ e
  refine block_inv (S := S) (Walks.tuple hh s₁.heap.objs.size ax (Nat.ne_of_lt hlt) its) hsz (fun i h st => by obtain ⟨o, e, _⟩ := st.1; exact ⟨o, e⟩) (fun i h h' o nw st e e' k N z => ⟨by obtain ⟨o', q, r⟩ := st.1; rw [e] at q; cases q; exact ⟨o, e', r⟩, ⟨_, (N _ (hS2 _ z)).1, rfl, _, rfl⟩⟩) hcell hkind hx ⟨⟨_, Heap.get?_push_size _ rfl, rfl, rfl⟩, hl.push _⟩ (fun b hb => ?_)
    (F.keeps up) (N.grown up) (Nat.ne_of_lt F.ns.lt) (next_is_new F) (fun p hp => Nat.ne_of_lt (Heap.lt_size (N p hp).1)) hS hlen h0 (turn _) (last s₁.heap)
  show b < (s₁.heap.push _).objs.size
  rw [Heap.size_push]
  rcases List.mem_cons.mp hb with rfl | hb
  · exact Nat.lt_succ_self _
  · rw [List.mem_singleton.mp hb]; exact Nat.lt_succ_of_lt hlt
end
section
variable {prog : Program} {w : World} {A : Around} {s₁ : Shared} {h₀ : Heap} {L : Addr} {m : Str → Option Value} {env : Env} {elt : Expr} {x : Str} {ifs : List Expr} {scope : Scope} {cl : List (Str × Addr)} {Q : Value → Shared → Prop} {news : List (Addr × Obj)}
theorem CSrcU.mk {ax : Addr} {its : Array Value} {kk : Nat} (Inv : Nat → List Value → List (Addr × Obj) → Prop) (hh : A.handled = none) (F : Fr h₀ L s₁.heap m) (N : News h₀ L s₁.heap news) (hsz : its.size ≤ sizeLine) (hS : (ax, ({ cls := .type "tuple", data := .seq its kk } : Obj)) ∈ news)
    (hlen : ∀ i ys nw, Inv i ys nw → ys.length ≤ i) (h0 : Inv 0 [] news)
    (turn : ∀ g, Turn prog w A h₀ L m env elt x ifs scope cl { s₁ with heap := g } (fun nw => (ax, ({ cls := .type "tuple", data := .seq its kk } : Obj)) ∈ nw) (fun i v => its[i]? = some v) Inv its.size) (fin : ∀ g ys nw, (ax, ({ cls := .type "tuple", data := .seq its kk } : Obj)) ∈ nw → Inv its.size ys nw → FinE h₀ L m { s₁ with heap := g } Q ys nw) :
    CSrcU prog w A h₀ L m env elt x ifs scope cl Q (.ref ax) s₁ :=
  ⟨_, fun nw => (ax, ({ cls := .type "tuple", data := .seq its kk } : Obj)) ∈ nw, _, Inv, news, hh, F, N, hsz, hS, hlen, h0, turn, fin, ax, its, kk, rfl, rfl, fun _ z => z, rfl⟩
end
end Mine
end
end
section
namespace Mine
theorem lay_K10 : True := by w_top off; k_with_none; (k_with "ktr_room" => (first | exact rm1 (by assumption) (by decide) | exact rm0 (by assumption) | exact rm2 (by assumption) (by decide) | exact rm3 (by assumption) (by decide) | exact rm4 (by assumption) (by decide))); (k_with "ktr_units" => (first | exact rm1 (by assumption) (by decide) | exact rm0 (by assumption) | exact rm2 (by assumption) (by decide) | exact rm3 (by assumption) (by decide) | exact rm4 (by assumption) (by decide))); (k_with "k_ne" => (first | assumption | (refine neN ?_; (try dsimp only); first | (refine Nat.ne_of_lt ?_; k_extra "kn"; done) | (refine Nat.ne_of_gt ?_; k_extra "kn"; done) | lia | omega))); (k_with "kn" => (repeat (first | with_reducible assumption | exact an0 (by with_reducible assumption) | exact an1 (by with_reducible assumption) | exact an2 (by with_reducible assumption) | exact an3 (by with_reducible assumption) | exact an4 (by with_reducible assumption) | exact an5 (by with_reducible assumption) | exact an6 (by with_reducible assumption) | exact an7 (by with_reducible assumption) | exact an8 (by with_reducible assumption) | exact ae1 (by with_reducible assumption) | exact ae2 (by with_reducible assumption) | exact ae3 (by with_reducible assumption) | exact ae4 (by with_reducible assumption) | exact ae5 (by with_reducible assumption) | exact ae6 (by with_reducible assumption) | exact ae7 (by with_reducible assumption) | exact ae8 (by with_reducible assumption) | exact Nat.lt_succ_self _ | refine lsu ?_))); (k_with "cF" => ((case kF => k_asm); (case kB => k_asm); (case kX => k_asm); (case kT => k_asm); (case kk => exact rfl))); (k_with "cH" => ((case hd => ktr_room); (case hu => ktr_units))); (k_with "cX" => ((case XB => assumption); (case TB => assumption); (case kD => assumption); (case T0 => first | assumption | exact KtsTurn.refl))); (k_with "So" => ((with_reducible show Stop _); refine Stop.of ?_)); (k_with "omega" => ((k_whole; first | ((with_reducible show (_ : Int) ≤ _); first | with_reducible assumption | decide | exact Int.le_trans (by with_reducible assumption) (by decide) | exact Int.le_trans (Int.le_of_lt (by with_reducible assumption)) (by decide) | exact ile (by with_reducible assumption) (by decide) | ((with_reducible show ((_ : Nat) : Int) ≤ _); exact Int.le_trans (Int.ofNat_le.mpr (by with_reducible assumption)) (by decide)) | exact Int.natCast_nonneg _) | ((with_reducible show (_ : Int) < _); first | with_reducible assumption | decide | exact Int.lt_of_le_of_lt (by with_reducible assumption) (by decide) | exact Int.lt_of_lt_of_le (by with_reducible assumption) (by decide) | exact ilt (by with_reducible assumption) (by decide) | ((with_reducible show ((_ : Nat) : Int) < _); exact Int.lt_of_le_of_lt (Int.ofNat_le.mpr (by with_reducible assumption)) (by decide))) | ((with_reducible show (_ : Nat) ≤ _); first | with_reducible assumption | exact Nat.le_of_ble_eq_true rfl | exact Nat.le_trans (by with_reducible assumption) (by decide)) | ((with_reducible show ¬ ((_ : Int) ≥ _)); refine Int.not_le.mpr ?_; omega) | ((with_reducible show _ ∧ _); refine And.intro ?_ ?_ <;> omega) | (law_clear; lia)))); (k_with "subscriptTail Name Constant ref int" => ((k_here; (with_reducible show wpAny _ _ (subscriptTail _ _ (Value.ref _) (Value.int _ _)) _ _ _); (with_unfolding_all refine' item_litK ?_ ?_ ?_ ?_ ?_ ?_; rotate_right 6; (focus ((is_list); done)); (decide); (decide); (rfl); (rotate_left 1; (with_unfolding_all rfl); rotate_right 1); k_whole)))); (k_with "ite" => ((k_closed; k_dflt (first | refine ite_pos (by decide +kernel) ?_ | refine ite_neg (by decide +kernel) ?_)))); (k_with "call builtin:isinstance" => (first | with_reducible refine IsiPair.int_str ?_ | with_reducible refine IsiPair.int_tuple ?_ | with_reducible refine IsiPair.str_str ?_ | with_reducible refine IsiPair.str_tuple ?_)); (k_with "storeName" => ((k_here; k_dflt (refine' storeX_L ?_ ?_ ?_ ?_ ?_; rotate_right 5; (rotate_left 4; (kernel_rfl!); rotate_right 4); (k_asm); (k_asm); (rotate_left 1; (rfl); rotate_right 1); k_whole; intro _ _ _; (try k_sweep))))); (k_with "eval Name" => ((k_here; (fail_if_success (with_reducible show wpAny _ _ (eval (PySem.Expr.Name _ _) (compEnvC _ _ _ _)) _ _ _)); name_kind "cell"; k_dflt (refine' nameX_C ?_ ?_ ?_ ?_ ?_ ?_ ?_ ?_; rotate_right 8; (rotate_left 5; (rfl); rotate_right 5); (rotate_left 5; (kernel_rfl); rotate_right 5); (k_asm); (rfl); (focus ((k_mem); done)); (k_asm); (rotate_left 1; (kernel_rfl); rotate_right 1); k_whole)))); (k_with "eval Name" => ((k_here; (fail_if_success (with_reducible show wpAny _ _ (eval (PySem.Expr.Name _ _) (compEnvC _ _ _ _)) _ _ _)); name_kind "globalImplicit"; k_dflt (first | ((refine' nameX_K ?_ ?_ ?_ ?_ ?_ ?_ ?_ ?_; rotate_right 8; (rotate_left 6; (kernel_rfl); rotate_right 6); (k_asm); (k_asm); (k_asm); (rotate_left 2; (rfl); rotate_right 2); (rotate_left 2; (kernel_rfl); rotate_right 2); (focus ((k_is); done)); k_whole)) | ((refine' nameX_B ?_ ?_ ?_ ?_ ?_ ?_ ?_ ?_ ?_ ?_; rotate_right 10; (rotate_left 8; (kernel_rfl); rotate_right 8); (k_asm); (k_asm); (k_asm); (rotate_left 4; (rfl); rotate_right 4); (rotate_left 4; (kernel_rfl); rotate_right 4); (focus ((k_is); done)); (focus ((boot_fast); done)); (decide +kernel); k_whole)))))); (k_with "eval Name" => ((k_here; (fail_if_success (with_reducible show wpAny _ _ (eval (PySem.Expr.Name _ _) (compEnvC _ _ _ _)) _ _ _)); name_kind "local"; k_dflt (refine' nameX_L ?_ ?_ ?_ ?_ ?_ ?_; rotate_right 6; (rotate_left 4; (kernel_rfl); rotate_right 4); (k_asm); (rotate_left 2; (rfl); rotate_right 2); (rotate_left 2; (kernel_rfl); rotate_right 2); (focus ((((repeat (first | with_reducible exact nm_hit | ((with_reducible refine Eq.trans (nm_miss ?_) ?_; kernel_rfl)))); (try rfl))); done)); k_whole)))); (k_with "exec Raise some none" => ((k_here; k_dflt (refine' raise_leave ?_ ?_ ?_ ?_ ?_ ?_ ?_ ?_ ?_ ?_; rotate_right 10; (k_asm); (k_asm); (k_asm); (k_asm); (k_asm); (exact rfl); (ktr_room); (rotate_left 1; (exact rfl); rotate_right 1); (rotate_left 1; (exact rfl); rotate_right 1)); intro _ _ _ _ _; (try dsimp only)))); (k_with "leaving ref" => ((k_here; k_dflt (refine' leave_next ?_ ?_ ?_ ?_ ?_; rotate_right 5; (rotate_left 2; (assumption); rotate_right 2); (rotate_left 1; (assumption); rotate_right 1); (assumption); (assumption)); intro _ _ _; (try dsimp only)))); (have : (0 : Nat) ≤ 1 := by (first | (walk1; done) | decide)); trivial
theorem OK10.gdK10 : True := trivial
open OK10
local macro_rules | `(tactic| k_lt $h:ident) => `(tactic| (replace $h := allLt_of $h; dsimp +zetaDelta only [AllLt] at $h:ident))
theorem wd_K10_3 : True := by (k_with "execs cons" => (k_here; (with_reducible show wpAny _ _ (execs (_ :: _) _) _ _ _); (try k_made); (with_reducible rename Fr _ _ _ _ => kFq); (with_reducible rename News _ _ _ _ => kNq); (refine execsE kFq kNq ?_); intro _ _ _ _ _ _ _ _ _; (try k_sweep))); (k_with "exec Assign" => (k_here; refine Assign_NameF ?_)); (k_with "exec Return some" => (k_here; refine Return_someF ?_)); (k_with "eval BinOp" => (first | (k_here; k_compRoot) | refine BinOpF ?_)); (k_with "eval Subscript" => (first | (k_here; k_compRoot) | refine SubscriptF ?_)); (k_with "eval List" => (first | (k_here; k_compRoot) | refine ListF ?_)); (k_with "eval Tuple" => (first | (k_here; k_compRoot) | refine TupleF ?_)); (k_with "callWith" => (refine callWith_biF ?_)); (k_with "spliced" => (k_here; (refine args_consG ?_); intro _)); (k_with "spliced" => (k_here; (with_reducible refine args_nil ?_); (try dsimp only [List.cons_append, List.nil_append]))); trivial
theorem wd_K10_4 : True := by (k_with "call type:range" => ((fail_if_success (fail_if_success (have : True := gdK10))); ((k_here; k_dflt (first | ((refine' range1N ?_ ?_ ?_; rotate_right 3; (rotate_left 1; (k_asm); rotate_right 1); (k_asm))) | ((refine' range2N ?_ ?_ ?_; rotate_right 3; (rotate_left 1; (k_asm); rotate_right 1); (k_asm)))); intro rR hR xR uR vR tkR fR nR)))); (k_with "exec Assign cons ListComp" => ((fail_if_success (fail_if_success (have : True := gdK10))); ((k_here; k_dflt (refine' comp_invA ?_ ?_ ?_ ?_ ?_ ?_ ?_ ?_ ?_ ?_ ?_ ?_; rotate_right 12; (k_asm); (rfl); (with_unfolding_all rfl); (with_unfolding_all rfl); (decide); (rfl); (decide); (rfl); (rfl); (rfl); (rotate_left 1; (focus (((intro _; rfl)); done)); rotate_right 1)))))); (k_with "eval ListComp" => ((fail_if_success (fail_if_success (have : True := gdK10))); ((k_here; k_dflt (refine' comp_inv ?_ ?_ ?_ ?_ ?_ ?_ ?_ ?_; rotate_right 8; (k_asm); (with_unfolding_all rfl); (decide); (rfl); (decide); (rfl); (rotate_left 1; (focus (((intro _; rfl)); done)); rotate_right 1)))))); (k_with "eval ListComp" => ((fail_if_success (fail_if_success (have : True := gdK10))); ((k_here; (with_reducible show wpAny _ _ (PySem.eval (Expr.ListComp _ [PySem.Comprehension.mk _ (Expr.Tuple _ _ _) _ _] _ _) _) _ _ _); k_dflt (refine' comp_invU ?_ ?_ ?_ ?_ ?_ ?_ ?_ ?_; rotate_right 8; (k_asm); (with_unfolding_all rfl); (decide); (rfl); (decide); (rfl); (rotate_left 1; (focus (((intro _; rfl)); done)); rotate_right 1)))))); (k_with "call ref" => ((k_here; k_dflt (refine Stop.go ?_)))); (k_with "CompEnd" => ((fail_if_success (fail_if_success (have : True := gdK10))); ((k_here; k_dflt (refine Stop.go ?_))))); (k_with "compareOp Eq str str" => ((fail_if_success (fail_if_success (have : True := gdK10))); ((k_here; k_dflt (refine' eqS_yes ?_ ?_; rotate_right 2; (focus ((first | with_reducible rfl | with_reducible assumption | exact law_due (by with_reducible assumption) | omega); done))))))); (k_with "compareOp NotEq str str" => ((fail_if_success (fail_if_success (have : True := gdK10))); ((k_here; k_dflt (refine' neS_no ?_ ?_; rotate_right 2; (focus ((first | with_reducible rfl | with_reducible assumption | exact law_due (by with_reducible assumption) | omega); done))))))); (k_with "compareOp Eq int int" => ((fail_if_success (fail_if_success (have : True := gdK10))); ((k_here; k_dflt (refine' eqI_yes ?_ ?_; rotate_right 2; (focus ((first | with_reducible rfl | with_reducible assumption | exact law_due (by with_reducible assumption) | omega); done))))))); (k_with "compareOp NotEq int int" => ((fail_if_success (fail_if_success (have : True := gdK10))); ((k_here; k_dflt (refine' neI_no ?_ ?_; rotate_right 2; (focus ((first | with_reducible rfl | with_reducible assumption | exact law_due (by with_reducible assumption) | omega); done))))))); (k_with "call builtin:sum" => ((fail_if_success (fail_if_success (have : True := gdK10))); ((k_here; (with_reducible show wpAny _ _ (call (Value.builtin "sum") [Value.ref _]) _ _ _); k_dflt (refine' sumK ?_ ?_ ?_ ?_ ?_ ?_; rotate_right 6; (rfl); (k_asm); (k_asm); (focus (((exact isList_of (by k_asm) (by k_mem))); done)); (with_reducible assumption)); intro hS tkS tS FS NS)))); trivial
theorem c_edits {w : World} {mean : ExcName → Option Value} {mg mb : Str → Option Value} {pd cl : Addr} {o : Obj} {vs : List Value} {ns : List Int} {cc : Nat} {c : Int}  (hne : cl ≠ pd) (hI : IntsAre vs ns) (hns : ns.length ≤ 64) (hP : PoolIs w o cl c) (hc0 : 0 ≤ c) (hc1 : c ≤ 100)  :
   Cl w mean mg mb 434 150 [(pd, o), (cl, W.listOf vs.toArray cc)] [.ref pd] := by
  refine shed ?_ fun _ n h => ?_
  focus (
  dsimp only [Cl]
  intro dp un gd cn cs a ccd cl' A₀ base h₀ L m s Q E B F X N T hk XB TB hd hu hret
  refine wpAny_call ?_
  k_dflt (refine' code_defE0C B F X N T ?kA ?hf ?hke ?k6 ?k7 ?k8 ?k9 ?kB ?kD ?_ ?c2 ?c3 ?c4; (case kA => exact rfl); (case hf => exact rfl); (case hke => exact hk); (case k6 => k_is); (case k7 => k_is); (case k8 => ktr_room); (case k9 => exact BindsTo.of_eq rfl); (case kB => exact rfl); (case kD => decide +kernel); (case c2 => exact rfl); (case c3 => exact rfl); (case c4 => exact rfl); k_whole)
  intro g' L' h' tk' cells' FG' F' N' Y' B' X' T' D' l1
  (try k_lt l1)
  obtain ⟨oc1, hE, d1⟩ := CellsAre.one Y'
  subst hE
  (try simp only [List.cons_append, List.nil_append] at N')
  (try dsimp only)
  (try k_lift B')
  (try k_fold)
  k_steps
  k_extra "So"
  k_dflt (refine' c_signsX ?U ?hm ?hne ?hI ?hns ?hP ?c0 ?c1 ?k0 ?k1 _ _ _ _ _ _ _ _ _ _ _ _ _ _ _ _ _ ?kB ?kF ?kX ?kN ?kT ?kk trivial ?hd ?hu ?_; (case kN => k_asm); k_extra "cF"; (case U => k_updF); (case hP => assumption); (case hm => k_mem); (case hne => first | assumption | k_ne); (case hI => assumption); (case hns => assumption); (case c0 => omega); (case c1 => omega); (case k0 => omega); (case k1 => omega); k_extra "cH")
  intro x t_x o_x c_x h_x k_x c0_x c1_x x_l x_a P_x F_x N_x
  (try dsimp only at N_x)
  k_steps
  (rename Fr _ L' _ _ => hF); (rename News _ L' _ _ => hN)
  refine CSrcU.mk (FInv w pd cl c_x _ _ _) rfl hF hN ?a3 (.head _) ?a4 ⟨[], _, c_x, .nil, .head _, Nat.le_refl _, rfl, P_x, by omega, by omega⟩ ?a6 ?a7
  case a3 => rw [sizeLine_eq]; exact Nat.le_of_ble_eq_true rfl
  case a4 =>
    intro i ys nw hJ; apply FInv.use hJ; intro ms o2 c2 hs _ hl _ _ _
    rw [ints_len hs]; exact hl
  case a6 =>
    intro g i ys nw v I oI C oC D m₂ hh tk E' hi' hJ; apply FInv.use hJ; clear hJ; intro ms o2 c2 hs hsum hlm hP2 hc2 hc3 hST hPv hoC hmx F2 N2 hoff hdis
    have hi7 : i < 7 := hi'
    obtain ⟨tv, rfl⟩ := ints_get (ns := Flags) (.cons _ _ (.cons _ _ (.cons _ _ (.cons _ _ (.cons _ _ (.cons _ _ (.cons _ _ .nil))))))) i v (by simpa using hPv)
    have hoff0 := hoff
    simp only [LCg.Off3] at hoff
    have q4 := Ne.symm hoff.2.2.1.1
    have q5 := Ne.symm hoff.2.2.1.2.1
    have q6 := Ne.symm hoff.2.2.1.2.2
    clear hi' hPv hST
    refine wpAny_tests_one ?_
    k_steps
    k_extra "So"
    k_dflt (refine' c_draw ?U ?hm ?hne ?hI ?hns ?hP ?c0 ?c1 ?k0 ?k1 _ _ _ _ _ _ _ _ _ _ _ _ _ _ _ _ _ ?kB ?kF ?kX ?kN ?kT ?kk trivial ?hd ?hu ?_; (case kN => k_asm); k_extra "cF"; (case U => k_updF); (case hP => assumption); (case hm => k_mem); (case hne => first | assumption | k_ne); (case hI => assumption); (case hns => assumption); (case c0 => omega); (case c1 => omega); (case k0 => omega); (case k1 => omega); k_extra "cH")
    intro f t_f o_f h_f k_f f_0 f_1 P_f F_f N_f
    (try dsimp only at N_f)
    clear hoff hdis
    k_steps
    all_goals (k_extra "So"; (rename Fr _ L' _ _ => fE); (rename News _ L' _ _ => nE); refine LCg.CompEnd.intro fE nE (_ :: _ :: (pd, o_f) :: _) (fun p hp => hp) hoff0 (.head _) ?_)
    all_goals first
      | exact ⟨_, _, _, ints_snoc hs, sums_put hsum rfl, by rw [List.length_append]; exact Nat.succ_le_succ hlm, rfl, P_f, by omega, by omega⟩
      | exact ⟨_, _, _, hs, sums_skip hsum, Nat.le_succ_of_le hlm, rfl, P_f, by omega, by omega⟩
  intro g ys nw hST hJ; revert hST; apply FInv.use hJ; clear hJ; intro ms o2 c2 hs hsum hlm hP2 hc2 hc3 hST D hh tk F2 N2 _
  (try k_sweep)
  obtain ⟨⟨f0, f1⟩, f2, f4⟩ := sums_all ms.sum hsum
  k_steps
  k_extra "So"
  k_dflt (refine' (h_edit ?qm ?q0 ?q1 ?q2 ?q3 ?q4) _ _ _ _ _ _ _ _ _ _ _ _ _ _ _ _ _ _ ?kB ?kF ?kX ?kN ?kT ?kk ?XB ?TB ?kD ?T0 trivial ?hd ?hu ?_; (case kN => k_asm); (case qm => k_mem); (case q0 => omega); (case q1 => exact alpha_le x_a); (case q2 => exact f2); (case q3 => exact f4); (case q4 => omega); k_extra "cF"; k_extra "cX"; k_extra "cH")
  intro tH1 gH1 hH1 kH1 T1 F1 N1 B1 X1 P1 D1
  (try k_lift B1)
  (try dsimp only)
  k_steps
  k_extra "So"
  k_dflt (refine' c_lawed _ _ _ _ _ _ _ _ _ _ _ _ _ _ _ _ _ ?kB ?kF ?kX ?kN ?kT ?kk ⟨?q0, x_a, f0, f1⟩ ?hd ?hu ?_; (case kN => k_asm); k_extra "cF"; (case q0 => omega); k_extra "cH")
  intro tO2 hO2 kO2 FO2 NO2
  (try dsimp only)
  k_steps
  k_extra "So"
  k_dflt (refine' (h_edit_x ?qm ) _ _ _ _ _ _ _ _ _ _ _ _ _ _ _ _ _ _ ?kB ?kF ?kX ?kN ?kT ?kk ?XB ?TB ?kD ?T0 trivial ?hd ?hu ?_; (case kN => k_asm); (case qm => k_mem); k_extra "cF"; k_extra "cX"; k_extra "cH")
  intro tH2 gH2 hH2 kH2 T2 F2 N2 B2 X2 P2 D2
  (try k_lift B2)
  (try dsimp only)
  k_steps
  (rename Fr _ L' _ _ => hF); (rename News _ L' _ _ => hN)
  refine' CSrc.rangeF 91 (fun i ys => StrsAre ys (ones ((List.range i).map tabC))) rfl hF hN ?a13 rfl (by omega) ?a43 .nil ?a63 ?a73
  case a13 => k_mem
  case a43 => exact fun i ys h => by rw [strs_len h, ones, List.length_map, List.length_map, List.length_range]; exact Nat.le_refl _
  case a63 =>
    intro g i ys v I oI C oC D m₂ hh tk E' hi' hs hv; apply ex1E hv; clear hv; intro tv hoC hmx F2 N2 hoff hdis
    refine wpAny_tests_nil ?_
    simp only [if_true]
    clear hdis
    k_steps
    all_goals (k_extra "So"; (rename Fr _ L' _ _ => fE); (rename News _ L' _ _ => nE); refine LCg.CompEnd.intro fE nE _ (fun p hp => hp) hoff rfl ?_)
    all_goals first
      | exact tab_put hs (tabC_no (by omega))
      | exact tab_put hs (tabC_32 (by omega))
  rintro g ys3 hs3 D3 hh3 tk3 F3 N3 _
  k_steps
  refine join_ones_l (isList_of N3 (.head _)) hs3 (by rw [List.length_map, List.length_range]; exact Nat.le_of_ble_eq_true rfl) fun tj kj => ?_
  k_steps
  (rename Fr _ L' _ _ => hF); (rename News _ L' _ _ => hN)
  refine' CSrc.textF (fun i ys => StrsAre ys (ones (dueL ((cd x).take i)))) rfl hF hN ?a14 ?a44 .nil ?a64 ?a74
  case a14 => omega
  case a44 => exact fun i ys h => due_fit h
  case a64 =>
    intro g i ys v I oI C oC D m₂ hh tk E' hi' hs hv; apply ex2E hv; clear hv; intro c tv hc hoC hmx F2 N2 hoff hdis
    refine wpAny_tests_one ?_
    clear hdis
    k_steps
    all_goals (k_extra "So"; (rename Fr _ L' _ _ => fE); (rename News _ L' _ _ => nE); refine LCg.CompEnd.intro fE nE _ (fun p hp => hp) hoff rfl ?_)
    all_goals first
      | exact due_put hs hc ⟨by omega, sp_ne (by assumption)⟩ rfl
      | exact due_skip hs hc (fun h => by omega)
      | exact due_skip hs hc (sp_is (by assumption))
  rintro g ys4 hs4 D4 hh4 tk4 F4 N4 _
  k_steps
  refine join_ones_l (isList_of N4 (.head _)) hs4 (due_10k (by omega)) fun tj2 kj2 => ?_
  k_steps
  k_extra "So"
  k_dflt (refine' (h_xlate ?qm ?q0 ?q1) _ _ _ _ _ _ _ _ _ _ _ _ _ _ _ _ _ _ ?kB ?kF ?kX ?kN ?kT ?kk ?XB ?TB ?kD ?T0 trivial ?hd ?hu ?_; (case kN => k_asm); (case qm => k_mem); (case q0 => omega); (case q1 => exact tab_len); k_extra "cF"; k_extra "cX"; k_extra "cH")
  intro tH5 gH5 hH5 kH5 T5 F5 N5 B5 X5 P5 D5
  (try k_lift B5)
  (try dsimp only)
  k_steps
  exact hret _ _ (by k_asm)
  )
  simpa using pick n 5 h
end Mine
end
section
open PySem.Spec
namespace Mine
theorem take_fit (l : List Int) : (l.take 40).length ≤ 64 := Nat.le_trans (List.length_take_le 40 l) (by decide)
theorem pool_mk {w : World} {o : Obj} {cl : Addr} {t u v : Tok} (h : o.IsDictOf (PySem.strKind Challenge.pw_pf0012_01 w) (strPairs [(.str (Str.ofString "cells") t, .ref cl), (.str (Str.ofString "count") u, .int 0 v)])) : PoolIs w o cl 0 := ⟨v, h⟩
end Mine
end
section
namespace Mine
theorem lay_L1 : True := by w_top off; k_with_none; (k_with "ktr_room" => (first | exact rm1 (by assumption) (by decide) | exact rm0 (by assumption) | exact rm2 (by assumption) (by decide) | exact rm3 (by assumption) (by decide) | exact rm4 (by assumption) (by decide))); (k_with "ktr_units" => (first | exact rm1 (by assumption) (by decide) | exact rm0 (by assumption) | exact rm2 (by assumption) (by decide) | exact rm3 (by assumption) (by decide) | exact rm4 (by assumption) (by decide))); (k_with "k_ne" => (first | assumption | (refine neN ?_; (try dsimp only); first | (refine Nat.ne_of_lt ?_; k_extra "kn"; done) | (refine Nat.ne_of_gt ?_; k_extra "kn"; done) | lia | omega))); (k_with "kn" => (repeat (first | with_reducible assumption | exact an0 (by with_reducible assumption) | exact an1 (by with_reducible assumption) | exact an2 (by with_reducible assumption) | exact an3 (by with_reducible assumption) | exact an4 (by with_reducible assumption) | exact an5 (by with_reducible assumption) | exact an6 (by with_reducible assumption) | exact an7 (by with_reducible assumption) | exact an8 (by with_reducible assumption) | exact ae1 (by with_reducible assumption) | exact ae2 (by with_reducible assumption) | exact ae3 (by with_reducible assumption) | exact ae4 (by with_reducible assumption) | exact ae5 (by with_reducible assumption) | exact ae6 (by with_reducible assumption) | exact ae7 (by with_reducible assumption) | exact ae8 (by with_reducible assumption) | exact Nat.lt_succ_self _ | refine lsu ?_))); (k_with "cF" => ((case kF => k_asm); (case kB => k_asm); (case kX => k_asm); (case kT => k_asm); (case kk => exact rfl))); (k_with "cH" => ((case hd => ktr_room); (case hu => ktr_units))); (k_with "cX" => ((case XB => assumption); (case TB => assumption); (case kD => assumption); (case T0 => first | assumption | exact KtsTurn.refl))); (k_with "So" => ((with_reducible show Stop _); refine Stop.of ?_)); (k_with "omega" => ((k_whole; first | ((with_reducible show (_ : Int) ≤ _); first | with_reducible assumption | decide | exact Int.le_trans (by with_reducible assumption) (by decide) | exact Int.le_trans (Int.le_of_lt (by with_reducible assumption)) (by decide) | exact ile (by with_reducible assumption) (by decide) | ((with_reducible show ((_ : Nat) : Int) ≤ _); exact Int.le_trans (Int.ofNat_le.mpr (by with_reducible assumption)) (by decide)) | exact Int.natCast_nonneg _) | ((with_reducible show (_ : Int) < _); first | with_reducible assumption | decide | exact Int.lt_of_le_of_lt (by with_reducible assumption) (by decide) | exact Int.lt_of_lt_of_le (by with_reducible assumption) (by decide) | exact ilt (by with_reducible assumption) (by decide) | ((with_reducible show ((_ : Nat) : Int) < _); exact Int.lt_of_le_of_lt (Int.ofNat_le.mpr (by with_reducible assumption)) (by decide))) | ((with_reducible show (_ : Nat) ≤ _); first | with_reducible assumption | exact Nat.le_of_ble_eq_true rfl | exact Nat.le_trans (by with_reducible assumption) (by decide)) | ((with_reducible show ¬ ((_ : Int) ≥ _)); refine Int.not_le.mpr ?_; omega) | ((with_reducible show _ ∧ _); refine And.intro ?_ ?_ <;> omega) | (law_clear; lia)))); (k_with "subscriptTail Name Constant ref int" => ((k_here; (with_reducible show wpAny _ _ (subscriptTail _ _ (Value.ref _) (Value.int _ _)) _ _ _); (with_unfolding_all refine' item_litK ?_ ?_ ?_ ?_ ?_ ?_; rotate_right 6; (focus ((is_list); done)); (decide); (decide); (rfl); (rotate_left 1; (with_unfolding_all rfl); rotate_right 1); k_whole)))); (k_with "ite" => ((k_closed; k_dflt (first | refine ite_pos (by decide +kernel) ?_ | refine ite_neg (by decide +kernel) ?_)))); (k_with "call builtin:isinstance" => (first | with_reducible refine IsiPair.int_str ?_ | with_reducible refine IsiPair.int_tuple ?_ | with_reducible refine IsiPair.str_str ?_ | with_reducible refine IsiPair.str_tuple ?_)); (k_with "storeName" => ((k_here; k_dflt (refine' storeX_L ?_ ?_ ?_ ?_ ?_; rotate_right 5; (rotate_left 4; (kernel_rfl!); rotate_right 4); (k_asm); (k_asm); (rotate_left 1; (rfl); rotate_right 1); k_whole; intro _ _ _; (try k_sweep))))); (k_with "eval Name" => ((k_here; (fail_if_success (with_reducible show wpAny _ _ (eval (PySem.Expr.Name _ _) (compEnvC _ _ _ _)) _ _ _)); name_kind "cell"; k_dflt (refine' nameX_C ?_ ?_ ?_ ?_ ?_ ?_ ?_ ?_; rotate_right 8; (rotate_left 5; (rfl); rotate_right 5); (rotate_left 5; (kernel_rfl); rotate_right 5); (k_asm); (rfl); (focus ((k_mem); done)); (k_asm); (rotate_left 1; (kernel_rfl); rotate_right 1); k_whole)))); (k_with "eval Name" => ((k_here; (fail_if_success (with_reducible show wpAny _ _ (eval (PySem.Expr.Name _ _) (compEnvC _ _ _ _)) _ _ _)); name_kind "globalImplicit"; k_dflt (first | ((refine' nameX_K ?_ ?_ ?_ ?_ ?_ ?_ ?_ ?_; rotate_right 8; (rotate_left 6; (kernel_rfl); rotate_right 6); (k_asm); (k_asm); (k_asm); (rotate_left 2; (rfl); rotate_right 2); (rotate_left 2; (kernel_rfl); rotate_right 2); (focus ((k_is); done)); k_whole)) | ((refine' nameX_B ?_ ?_ ?_ ?_ ?_ ?_ ?_ ?_ ?_ ?_; rotate_right 10; (rotate_left 8; (kernel_rfl); rotate_right 8); (k_asm); (k_asm); (k_asm); (rotate_left 4; (rfl); rotate_right 4); (rotate_left 4; (kernel_rfl); rotate_right 4); (focus ((k_is); done)); (focus ((boot_fast); done)); (decide +kernel); k_whole)))))); (k_with "eval Name" => ((k_here; (fail_if_success (with_reducible show wpAny _ _ (eval (PySem.Expr.Name _ _) (compEnvC _ _ _ _)) _ _ _)); name_kind "local"; k_dflt (refine' nameX_L ?_ ?_ ?_ ?_ ?_ ?_; rotate_right 6; (rotate_left 4; (kernel_rfl); rotate_right 4); (k_asm); (rotate_left 2; (rfl); rotate_right 2); (rotate_left 2; (kernel_rfl); rotate_right 2); (focus ((((repeat (first | with_reducible exact nm_hit | ((with_reducible refine Eq.trans (nm_miss ?_) ?_; kernel_rfl)))); (try rfl))); done)); k_whole)))); (k_with "exec Raise some none" => ((k_here; k_dflt (refine' raise_leave ?_ ?_ ?_ ?_ ?_ ?_ ?_ ?_ ?_ ?_; rotate_right 10; (k_asm); (k_asm); (k_asm); (k_asm); (k_asm); (exact rfl); (ktr_room); (rotate_left 1; (exact rfl); rotate_right 1); (rotate_left 1; (exact rfl); rotate_right 1)); intro _ _ _ _ _; (try dsimp only)))); (k_with "leaving ref" => ((k_here; k_dflt (refine' leave_next ?_ ?_ ?_ ?_ ?_; rotate_right 5; (rotate_left 2; (assumption); rotate_right 2); (rotate_left 1; (assumption); rotate_right 1); (assumption); (assumption)); intro _ _ _; (try dsimp only)))); (have : (0 : Nat) ≤ 1 := by (first | (walk1; done) | decide)); trivial
theorem wd_L1_2 : True := by (k_with "execs cons" => (k_here; (with_reducible show wpAny _ _ (execs (_ :: _) _) _ _ _); (try k_made); (refine execsF ?_); intro _ _ _ _ _)); (k_with "exec Assign" => (k_here; refine Assign_NameF ?_)); (k_with "exec Return some" => (k_here; refine Return_someF ?_)); (k_with "eval BinOp" => (first | (k_here; k_compRoot) | refine BinOpF ?_)); (k_with "eval Subscript" => (first | (k_here; k_compRoot) | refine SubscriptF ?_)); (k_with "eval List" => (first | (k_here; k_compRoot) | refine ListF ?_)); (k_with "eval Tuple" => (first | (k_here; k_compRoot) | refine TupleF ?_)); (k_with "callWith" => (refine callWith_biF ?_)); (k_with "spliced" => (k_here; (refine args_consG ?_); intro _)); (k_with "spliced" => (k_here; (with_reducible refine args_nil ?_); (try dsimp only [List.cons_append, List.nil_append]))); trivial
theorem wd_L1_3 : True := by (k_with "call ref" => ((k_here; k_dflt (refine Stop.go ?_)))); trivial
theorem law_holds.tw660297872995803996:True:=trivial
theorem law_holds.tw8441880690091102137:True:=trivial
theorem law_holds.tw1099259369241382048:True:=trivial
theorem law_holds.tw11463670642173560981:True:=trivial
theorem law_holds.tw9423440377400516374:True:=trivial
theorem law_holds.tw1341266762083198811:True:=trivial
theorem law_holds.tw11803358882649189518:True:=trivial
theorem law_holds.tw15191720212996534143:True:=trivial
theorem law_holds.tw18326849912455186884:True:=trivial
theorem law_holds.tw881140697980615281:True:=trivial
theorem law_holds.tw1258919526383655059:True:=trivial
theorem law_holds.tw17899081815984039989:True:=trivial
theorem law_holds.tw8634839017697508684:True:=trivial
theorem law_holds.tw14497384708736915567:True:=trivial
theorem law_holds.tw15732109348078318572:True:=trivial
theorem law_holds.tw16947615914383616782:True:=trivial
theorem law_holds.tw3927331946688356228:True:=trivial
theorem law_holds.tw3046938939346580660:True:=trivial
theorem law_holds.tw3850375180904979519:True:=trivial
theorem law_holds.tw7604666192120794032:True:=trivial
theorem law_holds.tw11625900857008200698:True:=trivial
theorem law_holds.tw15472126771306010800:True:=trivial
theorem law_holds.tw2139172203440323022:True:=trivial
theorem law_holds.tw7120836010843673076:True:=trivial
theorem law_holds.tw15333956030411951890:True:=trivial
theorem law_holds.tw13154458805202713791:True:=trivial
theorem law_holds.tw14774650325386425613:True:=trivial
theorem law_holds.tw14504562881470482554:True:=trivial
theorem law_holds.tw1172607208729018732:True:=trivial
theorem law_holds.tw14892801356780361778:True:=trivial
theorem law_holds.tw17974257514489008736:True:=trivial
theorem law_holds.tw2602977815382960713:True:=trivial
theorem law_holds.tw1819975233463548508:True:=trivial
theorem law_holds.tw4515466672771955728:True:=trivial
theorem law_holds.tw6869992995446874880:True:=trivial
theorem law_holds.tw4594515247299072714:True:=trivial
theorem law_holds.tw8549365171731915398:True:=trivial
theorem law_holds.tw5212653520564569363:True:=trivial
theorem law_holds.tw15150646450996357022:True:=trivial
theorem law_holds.tw10983241140555628109:True:=trivial
theorem law_holds.tw5950301352895977177:True:=trivial
theorem law_holds.tw2644310842459337959:True:=trivial
theorem law_holds.tw4030767218360268280:True:=trivial
theorem law_holds.tw10264638600885302300:True:=trivial
theorem law_holds.tw15448297888555860652:True:=trivial
theorem law_holds.tw8570087061310353148:True:=trivial
theorem law_holds.tw10108825076125807744:True:=trivial
theorem law_holds.tw8285764192309689115:True:=trivial
theorem law_holds.tw2143268655074302082:True:=trivial
theorem law_holds.tw1053317679998426468:True:=trivial
theorem law_holds.tw5914491427308094424:True:=trivial
theorem law_holds.tw13005147029216865851:True:=trivial
theorem law_holds.tw15162217921772873613:True:=trivial
theorem law_holds.tw13250372474279835810:True:=trivial
theorem law_holds.tw16805829885119392726:True:=trivial
theorem law_holds.tw8785698371604719795:True:=trivial
theorem law_holds.tw5731563423909890137:True:=trivial
theorem law_holds.tw8312341600987523519:True:=trivial
theorem law_holds.tw13028658284911697911:True:=trivial
theorem law_holds.tw15961912297980305975:True:=trivial
theorem law_holds.tw3974387499553966400:True:=trivial
theorem law_holds.tw12419048959643632839:True:=trivial
theorem law_holds.tw18340598423539479173:True:=trivial
theorem law_holds.tw10812634152524527747:True:=trivial
theorem law_holds.tw3186734533307500241:True:=trivial
theorem law_holds.tw8040771413219435098:True:=trivial
theorem law_holds.tw16978406815995349258:True:=trivial
theorem law_holds.tw16009327648451700120:True:=trivial
theorem law_holds.tw17499823404086765753:True:=trivial
theorem law_holds.tw10486713781251687710:True:=trivial
theorem law_holds.tw6265907326580845545:True:=trivial
theorem law_holds.tw10465528174321978529:True:=trivial
theorem law_holds.tw17253903310271361901:True:=trivial
theorem law_holds.tw1767730674963353768:True:=trivial
theorem law_holds.tw11484002064277903863:True:=trivial
theorem law_holds.tw5455921660152230842:True:=trivial
theorem law_holds.tw1989176631692091739:True:=trivial
theorem law_holds.tw12831907817818079685:True:=trivial
theorem law_holds.tw17713402740875732926:True:=trivial
theorem law_holds.tw15802469936163623734:True:=trivial
theorem law_holds.tw15544829507116839252:True:=trivial
theorem law_holds.tw4464252984393422682:True:=trivial
theorem law_holds.tw6667284449218939238:True:=trivial
theorem law_holds.tw850272041215511910:True:=trivial
theorem law_holds.tw2695550118857162214:True:=trivial
theorem law_holds.tw11017292853192552079:True:=trivial
theorem law_holds.tw6896717019858035522:True:=trivial
theorem law_holds.tw6881874429007886204:True:=trivial
theorem law_holds.tw4439653461905209652:True:=trivial
theorem law_holds.tw2124134355350193313:True:=trivial
theorem law_holds.tw7628765433844752937:True:=trivial
theorem law_holds.tw12889056044993165476:True:=trivial
theorem law_holds.tw3158129796062787159:True:=trivial
theorem law_holds.tw10350734228115807855:True:=trivial
theorem law_holds.tw9069877914133315304:True:=trivial
theorem law_holds.tw9843604407834444796:True:=trivial
theorem law_holds.tw7497986649931050792:True:=trivial
theorem law_holds.tw17923851452625207687:True:=trivial
theorem law_holds.tw8191475993861738794:True:=trivial
theorem law_holds.tw18261290160731607033:True:=trivial
theorem law_holds.tw2006301483956418059:True:=trivial
theorem law_holds.tw16098122237329998606:True:=trivial
theorem law_holds.tw14983226153234331074:True:=trivial
theorem law_holds.tw8330938851228082562:True:=trivial
theorem law_holds.tw10566571302883470556:True:=trivial
theorem law_holds.tw9184033795430018204:True:=trivial
theorem law_holds.tw9529696498207198238:True:=trivial
theorem law_holds.tw4370086069003782432:True:=trivial
theorem law_holds.tw1778412455037948541:True:=trivial
theorem law_holds.tw2643271747718453845:True:=trivial
theorem law_holds.tw18430954121086234272:True:=trivial
theorem law_holds.tw3910120701321347557:True:=trivial
theorem law_holds.tw1414043511812021011:True:=trivial
theorem law_holds.tw18254337876149969668:True:=trivial
theorem law_holds.tw5451054884063135654:True:=trivial
theorem law_holds.tw11133525997344109421:True:=trivial
theorem law_holds.tw16461882675039125421:True:=trivial
theorem law_holds.tw6727219029552735585:True:=trivial
theorem law_holds.tw4441770287765753910:True:=trivial
theorem law_holds.tw10024239376800412576:True:=trivial
theorem law_holds.tw14176785179279804650:True:=trivial
theorem law_holds.tw5062152199769849712:True:=trivial
theorem law_holds.tw7304591109411159013:True:=trivial
theorem law_holds.tw12115171985352901274:True:=trivial
theorem law_holds.tw12687621791434340054:True:=trivial
theorem law_holds.tw10188763426450519768:True:=trivial
theorem law_holds.tw2078624436916829710:True:=trivial
theorem law_holds.tw11846676642670509255:True:=trivial
theorem law_holds.tw10516828495840041881:True:=trivial
theorem law_holds.tw13280740594461564331:True:=trivial
theorem law_holds.tw12780804625047726367:True:=trivial
theorem law_holds.tw15617896438947887921:True:=trivial
theorem law_holds.tw3438298445031660282:True:=trivial
theorem law_holds.tw498061464947678834:True:=trivial
theorem law_holds.tw576407869801174206:True:=trivial
theorem law_holds.tw14390095281932903014:True:=trivial
theorem law_holds.tw10368410895845634921:True:=trivial
theorem law_holds.tw9682718004065560343:True:=trivial
theorem law_holds.tw18388893480867403737:True:=trivial
theorem law_holds.tw2558664710541493025:True:=trivial
theorem law_holds.tw17274716441693411508:True:=trivial
theorem law_holds.tw8720880381367431298:True:=trivial
theorem law_holds.tw3850404396616230974:True:=trivial
theorem law_holds.tw4581845663705801772:True:=trivial
theorem law_holds.tw9992725586745946429:True:=trivial
theorem law_holds.tw16273140198857503625:True:=trivial
theorem law_holds.tw1762888911704233025:True:=trivial
theorem law_holds.tw2503670479209048990:True:=trivial
theorem law_holds.tw2269544990204364226:True:=trivial
theorem law_holds.tw3956099054510807996:True:=trivial
theorem law_holds.tw607667584577438428:True:=trivial
theorem law_holds.tw6507877686720480950:True:=trivial
theorem law_holds.tw18135211599370774712:True:=trivial
theorem law_holds.tw519298541982818421:True:=trivial
theorem law_holds.tw15014403891855920072:True:=trivial
theorem law_holds.tw302768837105346163:True:=trivial
theorem law_holds.tw7769649832755249146:True:=trivial
theorem law_holds.tw9255152265573255198:True:=trivial
theorem law_holds.tw18234560199702728603:True:=trivial
theorem law_holds.tw12134408205421670959:True:=trivial
theorem law_holds.tw123295346585929383:True:=trivial
theorem law_holds.tw8984712037535005518:True:=trivial
theorem law_holds.tw15806970514647361693:True:=trivial
theorem law_holds.tw1670043908289496885:True:=trivial
theorem law_holds.tw2387193687640843687:True:=trivial
theorem law_holds.tw8909828626151137519:True:=trivial
theorem law_holds.tw7696488724909661519:True:=trivial
theorem law_holds.tw3889311736924406181:True:=trivial
theorem law_holds.tw5769158387606399586:True:=trivial
theorem law_holds.tw41732636909640268:True:=trivial
theorem law_holds.tw5112083995522966620:True:=trivial
theorem law_holds.tw10362271348294423435:True:=trivial
theorem law_holds.tw10028117763298573888:True:=trivial
theorem law_holds.tw10371022188087798493:True:=trivial
theorem law_holds.tw1905533677188600702:True:=trivial
theorem law_holds.tw4995542688137877417:True:=trivial
theorem law_holds.tw1973129929022764952:True:=trivial
theorem law_holds.tw9168033884955339765:True:=trivial
theorem law_holds.tw8553002610548859549:True:=trivial
theorem law_holds.tw12116493165278983582:True:=trivial
theorem law_holds.tw11881114122080957857:True:=trivial
theorem law_holds.tw3756308257209627903:True:=trivial
theorem law_holds.tw11100686419730198450:True:=trivial
theorem law_holds.tw14822640431511872941:True:=trivial
theorem law_holds.tw8970147916757833333:True:=trivial
theorem law_holds.tw6776455111828631412:True:=trivial
theorem law_holds.tw15527639110640922598:True:=trivial
theorem law_holds.tw11182679623053108816:True:=trivial
theorem law_holds.tw7407239408455114201:True:=trivial
theorem law_holds.tw1689763614830377041:True:=trivial
theorem law_holds.tw981846192996546977:True:=trivial
theorem law_holds.tw11544315989524547432:True:=trivial
theorem law_holds.tw14883556706271630602:True:=trivial
theorem law_holds.tw10609929442622069884:True:=trivial
theorem law_holds.tw1784627337472249616:True:=trivial
theorem law_holds.tw5858263632927829637:True:=trivial
theorem law_holds.tw14988988175077273356:True:=trivial
theorem law_holds.tw5117662029339320154:True:=trivial
theorem law_holds.tw17180001009569633970:True:=trivial
theorem law_holds.tw2578278018795888234:True:=trivial
theorem law_holds.tw3049941959672503198:True:=trivial
theorem law_holds.tw5506821171919863439:True:=trivial
theorem law_holds.tw13402424001964919149:True:=trivial
theorem law_holds.tw5274592661964301406:True:=trivial
theorem law_holds.tw4524032621918665186:True:=trivial
theorem law_holds.tw8386679336120195906:True:=trivial
theorem law_holds.tw6159533029260741167:True:=trivial
theorem law_holds.tw15352839923633478061:True:=trivial
theorem law_holds.tw10876394233666535175:True:=trivial
theorem law_holds.tw11291139869246802265:True:=trivial
theorem law_holds.tw11764581739189218997:True:=trivial
theorem law_holds.tw3390839446522356110:True:=trivial
theorem law_holds.tw545109181885906688:True:=trivial
theorem law_holds.tw11966672015165255308:True:=trivial
theorem law_holds.tw2907507879108658156:True:=trivial
theorem law_holds.tw14326059299131336239:True:=trivial
theorem law_holds.tw6911747868599837429:True:=trivial
theorem law_holds.tw18051328159682125866:True:=trivial
theorem law_holds.tw6860709855171689206:True:=trivial
theorem law_holds.tw5389484754426515990:True:=trivial
theorem law_holds.tw15006436103509636135:True:=trivial
theorem law_holds.tw3253568177066640346:True:=trivial
theorem law_holds.tw13281950902743806629:True:=trivial
theorem law_holds.tw9207643191828677137:True:=trivial
theorem law_holds.tw2075624079617657780:True:=trivial
theorem law_holds.tw7566432030715092817:True:=trivial
theorem law_holds.tw11924911360389889469:True:=trivial
theorem law_holds.tw11126432536435168541:True:=trivial
theorem law_holds.tw14872900085578418628:True:=trivial
theorem law_holds.tw179590077315354965:True:=trivial
theorem law_holds.tw11223184984439025696:True:=trivial
theorem law_holds.tw2136269947727277649:True:=trivial
theorem law_holds.tw8854015012368427407:True:=trivial
theorem law_holds.tw3035144380315620824:True:=trivial
theorem law_holds.tw8369274380968253667:True:=trivial
theorem law_holds.tw7408322871517469003:True:=trivial
theorem law_holds.tw17255088995462705879:True:=trivial
theorem law_holds.tw2090888555730037645:True:=trivial
theorem law_holds.tw8666519363043736892:True:=trivial
theorem law_holds.tw7593269729358013723:True:=trivial
theorem law_holds.tw10242277825702978295:True:=trivial
theorem law_holds.tw13190408463805328480:True:=trivial
theorem law_holds.tw7221977096350200048:True:=trivial
theorem law_holds.tw3426384778480675251:True:=trivial
theorem law_holds.tw7080125749870532296:True:=trivial
theorem law_holds.tw3307954989432871184:True:=trivial
theorem law_holds.tw8514742172934523775:True:=trivial
theorem law_holds.tw14545874151571354728:True:=trivial
theorem law_holds.tw16106779387088534511:True:=trivial
theorem law_holds.tw3033269912633744064:True:=trivial
theorem law_holds.tw6317479115527610633:True:=trivial
theorem law_holds.tw13650905803964671038:True:=trivial
theorem law_holds.tw602461330855297101:True:=trivial
theorem law_holds.tw11426015686315989412:True:=trivial
theorem law_holds.tw4614512636035447770:True:=trivial
theorem law_holds.tw17942709131360195518:True:=trivial
theorem law_holds.tw5920216800500632969:True:=trivial
theorem law_holds.tw3896150654470677357:True:=trivial
theorem law_holds.tw3366817510852727610:True:=trivial
theorem law_holds.tw8857742495270377987:True:=trivial
theorem law_holds.tw9849722394096787677:True:=trivial
theorem law_holds.tw12149405283708829123:True:=trivial
theorem law_holds.tw10442559174759676424:True:=trivial
theorem law_holds.tw3005452535816212104:True:=trivial
theorem law_holds.tw15607887362523206001:True:=trivial
theorem law_holds.tw17253691774821329096:True:=trivial
theorem law_holds.tw1917705788506458742:True:=trivial
theorem law_holds.tw4593294709026258786:True:=trivial
theorem law_holds.tw8417186165934385351:True:=trivial
theorem law_holds.tw16760957895259694429:True:=trivial
theorem law_holds.tw16190678330180157336:True:=trivial
theorem law_holds.tw9779807473162285230:True:=trivial
theorem law_holds.tw2295933128562542503:True:=trivial
theorem law_holds.tw4916342969005030805:True:=trivial
theorem law_holds.tw3882201998751590657:True:=trivial
theorem law_holds.tw2618386414584295968:True:=trivial
theorem law_holds.tw16099233806120587224:True:=trivial
theorem law_holds.tw3850334171643177529:True:=trivial
theorem law_holds.tw12889673554181485818:True:=trivial
theorem law_holds.tw2102315897755806987:True:=trivial
theorem law_holds.tw1285599515219305098:True:=trivial
theorem law_holds.tw3253820488102484341:True:=trivial
theorem law_holds.tw4818577856007422655:True:=trivial
theorem law_holds.tw3742325753681652743:True:=trivial
theorem law_holds.tw1550374771381668074:True:=trivial
theorem law_holds.tw14828999820898988419:True:=trivial
theorem law_holds.tw4037582482628031876:True:=trivial
theorem law_holds.tw4329158554759489670:True:=trivial
theorem law_holds.tw10093380194815717143:True:=trivial
theorem law_holds.tw12223724995276690173:True:=trivial
theorem law_holds.tw4992725456586698614:True:=trivial
theorem law_holds.tw7185456241796803578:True:=trivial
theorem law_holds.tw1096898596823417342:True:=trivial
theorem law_holds.tw724200737284857819:True:=trivial
theorem law_holds.tw3979707639553702691:True:=trivial
theorem law_holds.tw11098625913536864229:True:=trivial
theorem law_holds.tw14596297492920191028:True:=trivial
theorem law_holds.tw907578622648922086:True:=trivial
theorem law_holds.tw1335265377702380343:True:=trivial
theorem law_holds.tw17865009358878524859:True:=trivial
theorem law_holds.tw14377833709258309704:True:=trivial
theorem law_holds.tw12342728606916771844:True:=trivial
theorem law_holds.tw9288214680346807717:True:=trivial
theorem law_holds.tw1685627985566243432:True:=trivial
theorem law_holds.tw3955097671198598788:True:=trivial
theorem law_holds.tw1385162719727133579:True:=trivial
theorem law_holds.tw15694993059591697976:True:=trivial
theorem law_holds.tw10296202853966499060:True:=trivial
theorem law_holds.tw7495221243884187115:True:=trivial
theorem law_holds.tw2152083551845799040:True:=trivial
theorem law_holds.tw11347954631545130290:True:=trivial
theorem law_holds.tw17237755526102222789:True:=trivial
theorem law_holds.tw13301187468288870568:True:=trivial
theorem law_holds.tw17993387198741990920:True:=trivial
theorem law_holds.tw447027507633508388:True:=trivial
theorem law_holds.tw14991590004735058009:True:=trivial
theorem law_holds.tw7820799176418779761:True:=trivial
theorem law_holds.tw14904137174637212347:True:=trivial
theorem law_holds.tw6333624483447246961:True:=trivial
theorem law_holds.tw10841264019214440115:True:=trivial
theorem law_holds.tw7636989558263936852:True:=trivial
theorem law_holds.tw15829985883664642994:True:=trivial
theorem law_holds.tw13182730311906835528:True:=trivial
theorem law_holds.tw11977050620070087417:True:=trivial
theorem law_holds.tw4503035019201841076:True:=trivial
theorem law_holds.tw1850971655221120489:True:=trivial
theorem law_holds.tw3776956092104397036:True:=trivial
theorem law_holds.tw8266603773606604290:True:=trivial
theorem law_holds.tw2842810181116790245:True:=trivial
theorem law_holds.tw6260460797876433568:True:=trivial
theorem law_holds.tw11690447701083486646:True:=trivial
theorem law_holds.tw17911580528928914924:True:=trivial
theorem law_holds.tw11097158420108258118:True:=trivial
theorem law_holds.tw14571795756577361901:True:=trivial
theorem law_holds.tw15661869461025623997:True:=trivial
theorem law_holds.tw11609493526922420660:True:=trivial
theorem law_holds.tw10007947361888340627:True:=trivial
theorem law_holds.tw12476058986133298565:True:=trivial
theorem law_holds.tw8249079356659094474:True:=trivial
theorem law_holds.tw16893121556090616931:True:=trivial
theorem law_holds.tw11404014056486942332:True:=trivial
theorem law_holds.tw15609566024721092083:True:=trivial
theorem law_holds.tw10817052189556005596:True:=trivial
theorem law_holds.tw13220211186989608806:True:=trivial
theorem law_holds.tw16406091861079842607:True:=trivial
theorem law_holds.tw10666784280354678857:True:=trivial
theorem law_holds.tw18090433342136740992:True:=trivial
theorem law_holds.tw16563099163409725306:True:=trivial
theorem law_holds.tw2887050238494874643:True:=trivial
theorem law_holds.tw13958071646730322851:True:=trivial
theorem law_holds.tw12732824653754844360:True:=trivial
theorem law_holds.tw16883458599210261866:True:=trivial
theorem law_holds.tw14160533322030094474:True:=trivial
theorem law_holds.tw1909877003179415225:True:=trivial
theorem law_holds.tw455179833554555240:True:=trivial
theorem law_holds.tw11470271118054631628:True:=trivial
theorem law_holds.tw7311554392007033315:True:=trivial
theorem law_holds.tw1921953547329036461:True:=trivial
theorem law_holds.tw16394190705244873857:True:=trivial
theorem law_holds.tw13800757232730249582:True:=trivial
theorem law_holds.tw15272395603832836080:True:=trivial
theorem law_holds.tw14925382992726071281:True:=trivial
theorem law_holds.tw6742167220095942602:True:=trivial
theorem law_holds.tw16614716721108272449:True:=trivial
theorem law_holds.tw1832781179975386347:True:=trivial
theorem law_holds.tw14289194402921355359:True:=trivial
theorem law_holds.tw4781243967656130014:True:=trivial
theorem law_holds.tw7089819591129360890:True:=trivial
theorem law_holds.tw1791086108937442324:True:=trivial
theorem law_holds.tw15154110283740273250:True:=trivial
theorem law_holds.tw1186782194237197914:True:=trivial
theorem law_holds.tw699380112222796084:True:=trivial
theorem law_holds.tw9606376775287448836:True:=trivial
theorem law_holds.tw10441050188594101415:True:=trivial
theorem law_holds.tw8472228645029834797:True:=trivial
theorem law_holds.tw13392613628428298086:True:=trivial
theorem law_holds.tw16381176275627223697:True:=trivial
theorem law_holds.tw14997073306097389879:True:=trivial
theorem law_holds.tw18006792725990754497:True:=trivial
theorem law_holds.tw3595789414353437717:True:=trivial
theorem law_holds.tw6674817763981286723:True:=trivial
theorem law_holds.tw11097350217990362986:True:=trivial
theorem law_holds.tw2055734563569237896:True:=trivial
theorem law_holds.tw6765152471904792315:True:=trivial
theorem law_holds.tw14335913921861858828:True:=trivial
theorem law_holds.tw13478230802861573701:True:=trivial
theorem law_holds.tw4323815956820902445:True:=trivial
theorem law_holds.tw15759456685926392790:True:=trivial
theorem law_holds.tw8835965917227929528:True:=trivial
theorem law_holds.tw9317688335297629284:True:=trivial
theorem law_holds.tw445335354869643106:True:=trivial
theorem law_holds.tw1496123403401453975:True:=trivial
theorem law_holds.tw15140378357190847165:True:=trivial
theorem law_holds.tw18221428039690301666:True:=trivial
theorem law_holds.tw6677821561840896501:True:=trivial
theorem law_holds.tw12459966957829302596:True:=trivial
theorem law_holds.tw10968802771074238664:True:=trivial
theorem law_holds.tw653560878884961445:True:=trivial
theorem law_holds.tw17027635718292003107:True:=trivial
set_option Elab.async true in
theorem law_holds : PySem.Challenge.rw_pf0012_01.Holds := by
  w_on
  o_law
  k_head
  (case hw => w_witness2)
  k_go0
  (all_goals try k_fold)
  k_steps
  k_extra "So"
  (rename News _ _ _ _ => N0)
  (rename Frag.In _ _ => KX0)
  (rename Top _ _ _ _ _ _ => T0)
  (rename Fr _ _ _ _ => F0)
  (rename IntsAre _ (List.take 40 _) => hI0)
  (rename Obj.IsDictOf _ _ (strPairs _) => hD0)
  have KX1 : Frag.In (hd.heap_39 _) _ := KX0
  have T1 : Top hd.view_39 (looseW hd.view_39 [Str.ofString "BasicError"]) _ _ _ _ := T0
  (rename _ < _ => l0)
  have hne0 := Nat.ne_of_gt l0
  have hP0 := pool_mk hD0
  with_unfolding_all refine' c_draw (c := 0) ?U (.head _) hne0 hI0 (take_fit _) hP0 (by decide) (by decide) ?k0 ?k1 _ _ _ _ _ _ _ _ _ _ _ _ _ _ _ _ _ ?kB ?kF ?kX ?kN ?kT ?kk trivial ?hd ?hu ?_
  case U => k_updF
  case kB => exact below_caller _
  case kF => exact F0
  case kX => exact KX1
  case kN => exact N0
  case kT => exact T1
  case kk => exact rfl
  case k0 => decide
  case k1 => decide
  case hd => ktr_room
  case hu => ktr_units
  intro r t_r o_r h_r k_r r_0 r_1 P_r F_r N_r
  k_steps
  · k_extra "So"
    ((with_unfolding_all refine' (c_cuts hne0 hI0 (take_fit _) P_r (by decide) (by decide)) _ _ _ _ _ _ _ _ _ _ _ _ _ _ _ _ ?kB ?kF ?kX ?kN ?kT ?kk ?kXB ?kTB ?hd ?hu ?_); (case kB => exact below_caller _); (case kF => k_asm); (case kX => assumption); (case kN => ((rename News _ _ _ _ => Nl); refine kst_newsOf Nl ?_; intro p hp; rcases List.mem_cons.mp hp with rfl | hp; exact .tail _ (.head _); rw [List.mem_singleton.mp hp]; exact .head _)); (case kT => assumption); (case kk => exact rfl); (case kXB => assumption); (case kTB => assumption); k_extra "cH")
    intro hE tE fE
    (try dsimp only)
    k_steps
    all_goals (try k_data)
  · k_extra "So"
    ((with_unfolding_all refine' (c_places hne0 hI0 (take_fit _) P_r (by decide) (by decide)) _ _ _ _ _ _ _ _ _ _ _ _ _ _ _ _ ?kB ?kF ?kX ?kN ?kT ?kk ?kXB ?kTB ?hd ?hu ?_); (case kB => exact below_caller _); (case kF => k_asm); (case kX => assumption); (case kN => ((rename News _ _ _ _ => Nl); refine kst_newsOf Nl ?_; intro p hp; rcases List.mem_cons.mp hp with rfl | hp; exact .tail _ (.head _); rw [List.mem_singleton.mp hp]; exact .head _)); (case kT => assumption); (case kk => exact rfl); (case kXB => assumption); (case kTB => assumption); k_extra "cH")
    intro hE tE fE
    (try dsimp only)
    k_steps
    all_goals (try k_data)
  · k_extra "So"
    ((with_unfolding_all refine' (c_letters hne0 hI0 (take_fit _) P_r (by decide) (by decide)) _ _ _ _ _ _ _ _ _ _ _ _ _ _ _ _ ?kB ?kF ?kX ?kN ?kT ?kk ?kXB ?kTB ?hd ?hu ?_); (case kB => exact below_caller _); (case kF => k_asm); (case kX => assumption); (case kN => ((rename News _ _ _ _ => Nl); refine kst_newsOf Nl ?_; intro p hp; rcases List.mem_cons.mp hp with rfl | hp; exact .tail _ (.head _); rw [List.mem_singleton.mp hp]; exact .head _)); (case kT => assumption); (case kk => exact rfl); (case kXB => assumption); (case kTB => assumption); k_extra "cH")
    intro hE tE fE
    (try dsimp only)
    k_steps
    all_goals (try k_data)
  · k_extra "So"
    ((with_unfolding_all refine' (c_codes hne0 hI0 (take_fit _) P_r (by decide) (by decide)) _ _ _ _ _ _ _ _ _ _ _ _ _ _ _ _ ?kB ?kF ?kX ?kN ?kT ?kk ?kXB ?kTB ?hd ?hu ?_); (case kB => exact below_caller _); (case kF => k_asm); (case kX => assumption); (case kN => ((rename News _ _ _ _ => Nl); refine kst_newsOf Nl ?_; intro p hp; rcases List.mem_cons.mp hp with rfl | hp; exact .tail _ (.head _); rw [List.mem_singleton.mp hp]; exact .head _)); (case kT => assumption); (case kk => exact rfl); (case kXB => assumption); (case kTB => assumption); k_extra "cH")
    intro hE tE fE
    (try dsimp only)
    k_steps
    all_goals (try k_data)
  · k_extra "So"
    ((with_unfolding_all refine' (c_edits hne0 hI0 (take_fit _) P_r (by decide) (by decide)) _ _ _ _ _ _ _ _ _ _ _ _ _ _ _ _ ?kB ?kF ?kX ?kN ?kT ?kk ?kXB ?kTB ?hd ?hu ?_); (case kB => exact below_caller _); (case kF => k_asm); (case kX => assumption); (case kN => ((rename News _ _ _ _ => Nl); refine kst_newsOf Nl ?_; intro p hp; rcases List.mem_cons.mp hp with rfl | hp; exact .tail _ (.head _); rw [List.mem_singleton.mp hp]; exact .head _)); (case kT => assumption); (case kk => exact rfl); (case kXB => assumption); (case kTB => assumption); k_extra "cH")
    intro hE tE fE
    (try dsimp only)
    k_steps
    all_goals (try k_data)
end Mine
end
end
theorem PySem.Challenge.cw_pf0012_01_holds : PySem.Challenge.rw_pf0012_01.Holds :=
  Mine.law_holds
