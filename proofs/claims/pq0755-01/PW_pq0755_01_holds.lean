import PyProof.Rows.All
import Wide.All
import OpenK.AllK
import Wide.FinOn
import Lean
import PySem.Challenge.RW_pq0755_01
set_option autoImplicit false
set_option linter.all false
set_option Elab.async false
set_option maxRecDepth 100000
set_option maxHeartbeats 0
set_option genSizeOf false
set_option genInjectivity false
section
namespace Mine
open PySem PySem.W PyProof.Rows PySem.Spec PySem.Calls
set_option compiler.extract_closed false
def a0:Str:=⟨⟨[nat_lit 98,nat_lit 101,nat_lit 115,nat_lit 116,nat_lit 95,nat_lit 99,nat_lit 111,nat_lit 112,nat_lit 121]⟩⟩
def a1:Str:=⟨⟨[nat_lit 47,nat_lit 99,nat_lit 108,nat_lit 97,nat_lit 105,nat_lit 109,nat_lit 47,nat_lit 99,nat_lit 117,nat_lit 116,nat_lit 46,nat_lit 112,nat_lit 121]⟩⟩
def a2:Str:=⟨⟨[nat_lit 95,nat_lit 95,nat_lit 119,nat_lit 101,nat_lit 97,nat_lit 107,nat_lit 114,nat_lit 101,nat_lit 102,nat_lit 95,nat_lit 95]⟩⟩
def a3:Str:=⟨⟨[nat_lit 102,nat_lit 105,nat_lit 110,nat_lit 105,nat_lit 115,nat_lit 104]⟩⟩
def a4:Str:=⟨⟨[nat_lit 66,nat_lit 105,nat_lit 116,nat_lit 87,nat_lit 114,nat_lit 105,nat_lit 116,nat_lit 101,nat_lit 114,nat_lit 46,nat_lit 102,nat_lit 105,nat_lit 110,nat_lit 105,nat_lit 115,nat_lit 104]⟩⟩
def a5:Str:=⟨⟨[nat_lit 115,nat_lit 101,nat_lit 108,nat_lit 102]⟩⟩
def a6:Str:=⟨⟨[nat_lit 99,nat_lit 111,nat_lit 117,nat_lit 110,nat_lit 116]⟩⟩
def a7:Str:=⟨⟨[nat_lit 98,nat_lit 105,nat_lit 116,nat_lit 115]⟩⟩
def a8:Str:=⟨⟨[nat_lit 111,nat_lit 117,nat_lit 116]⟩⟩
def a9:Str:=⟨⟨[nat_lit 99,nat_lit 111,nat_lit 100,nat_lit 101,nat_lit 115,nat_lit 95,nat_lit 111,nat_lit 102]⟩⟩
def a10:Str:=⟨⟨[nat_lit 95,nat_lit 95,nat_lit 109,nat_lit 111,nat_lit 100,nat_lit 117,nat_lit 108,nat_lit 101,nat_lit 95,nat_lit 95]⟩⟩
def a11:Str:=⟨⟨[nat_lit 109,nat_lit 111,nat_lit 100,nat_lit 117,nat_lit 108,nat_lit 101,nat_lit 121,nat_lit 97,nat_lit 114,nat_lit 100,nat_lit 46,nat_lit 101,nat_lit 114,nat_lit 114,nat_lit 111,nat_lit 114,nat_lit 115]⟩⟩
def a12:Str:=⟨⟨[nat_lit 95,nat_lit 95,nat_lit 102,nat_lit 105,nat_lit 114,nat_lit 115,nat_lit 116,nat_lit 108,nat_lit 105,nat_lit 110,nat_lit 101,nat_lit 110,nat_lit 111,nat_lit 95,nat_lit 95]⟩⟩
def a13:Str:=⟨⟨[nat_lit 95,nat_lit 95,nat_lit 105,nat_lit 110,nat_lit 105,nat_lit 116,nat_lit 95,nat_lit 95]⟩⟩
def a14:Str:=⟨⟨[nat_lit 95,nat_lit 95,nat_lit 115,nat_lit 116,nat_lit 97,nat_lit 116,nat_lit 105,nat_lit 99,nat_lit 95,nat_lit 97,nat_lit 116,nat_lit 116,nat_lit 114,nat_lit 105,nat_lit 98,nat_lit 117,nat_lit 116,nat_lit 101,nat_lit 115,nat_lit 95,nat_lit 95]⟩⟩
def a15:Str:=⟨⟨[nat_lit 95,nat_lit 95,nat_lit 100,nat_lit 111,nat_lit 99,nat_lit 95,nat_lit 95]⟩⟩
def a16:Str:=⟨⟨[nat_lit 100,nat_lit 97,nat_lit 116,nat_lit 97]⟩⟩
def a17:Str:=⟨⟨[nat_lit 119,nat_lit 105,nat_lit 110,nat_lit 100,nat_lit 111,nat_lit 119]⟩⟩
def a18:Str:=⟨⟨[nat_lit 116,nat_lit 111,nat_lit 107,nat_lit 101,nat_lit 110,nat_lit 115]⟩⟩
def a19:Str:=⟨⟨[nat_lit 99,nat_lit 111,nat_lit 117,nat_lit 110,nat_lit 116,nat_lit 115]⟩⟩
def a20:Str:=⟨⟨[nat_lit 100,nat_lit 105,nat_lit 115,nat_lit 116,nat_lit 97,nat_lit 110,nat_lit 99,nat_lit 101,nat_lit 95,nat_lit 99,nat_lit 111,nat_lit 117,nat_lit 110,nat_lit 116,nat_lit 115]⟩⟩
def a21:Str:=⟨⟨[nat_lit 109,nat_lit 97,nat_lit 105,nat_lit 110]⟩⟩
def a22:Str:=⟨⟨[nat_lit 100,nat_lit 105,nat_lit 115,nat_lit 116,nat_lit 97,nat_lit 110,nat_lit 99,nat_lit 101,nat_lit 115]⟩⟩
def a23:Str:=⟨⟨[nat_lit 119,nat_lit 114,nat_lit 105,nat_lit 116,nat_lit 101,nat_lit 114]⟩⟩
def a24:Str:=⟨⟨[nat_lit 116,nat_lit 101,nat_lit 120,nat_lit 116]⟩⟩
def a25:Str:=⟨⟨[nat_lit 66,nat_lit 121,nat_lit 116,nat_lit 101,nat_lit 82,nat_lit 101,nat_lit 97,nat_lit 100,nat_lit 101,nat_lit 114,nat_lit 46,nat_lit 116,nat_lit 101,nat_lit 120,nat_lit 116]⟩⟩
def a26:Str:=⟨⟨[nat_lit 95,nat_lit 119,nat_lit 97,nat_lit 108,nat_lit 108]⟩⟩
def a27:Str:=⟨⟨[nat_lit 109,nat_lit 111,nat_lit 100,nat_lit 117,nat_lit 108,nat_lit 101,nat_lit 121,nat_lit 97,nat_lit 114,nat_lit 100,nat_lit 46,nat_lit 98,nat_lit 121,nat_lit 116,nat_lit 101,nat_lit 115,nat_lit 105,nat_lit 111]⟩⟩
def a28:Str:=⟨⟨[nat_lit 119,nat_lit 105,nat_lit 100,nat_lit 116,nat_lit 104]⟩⟩
def a29:Str:=⟨⟨[nat_lit 118,nat_lit 97,nat_lit 108,nat_lit 117,nat_lit 101]⟩⟩
def a30:Str:=⟨⟨[nat_lit 116,nat_lit 117,nat_lit 114,nat_lit 110]⟩⟩
def a31:Str:=⟨⟨[nat_lit 110,nat_lit 117,nat_lit 109,nat_lit 98,nat_lit 101,nat_lit 114,nat_lit 115]⟩⟩
def a32:Str:=⟨⟨[nat_lit 66,nat_lit 121,nat_lit 116,nat_lit 101,nat_lit 82,nat_lit 101,nat_lit 97,nat_lit 100,nat_lit 101,nat_lit 114,nat_lit 46,nat_lit 110,nat_lit 117,nat_lit 109,nat_lit 98,nat_lit 101,nat_lit 114,nat_lit 115]⟩⟩
def a33:Str:=⟨⟨[nat_lit 95,nat_lit 95,nat_lit 100,nat_lit 105,nat_lit 99,nat_lit 116,nat_lit 95,nat_lit 95]⟩⟩
def a34:Str:=⟨⟨[nat_lit 99,nat_lit 111,nat_lit 112,nat_lit 121,nat_lit 95,nat_lit 98,nat_lit 97,nat_lit 99,nat_lit 107]⟩⟩
def a35:Str:=⟨⟨[nat_lit 108,nat_lit 101,nat_lit 110,nat_lit 103,nat_lit 116,nat_lit 104]⟩⟩
def a36:Str:=⟨⟨[nat_lit 100,nat_lit 105,nat_lit 115,nat_lit 116,nat_lit 97,nat_lit 110,nat_lit 99,nat_lit 101]⟩⟩
def a37:Str:=⟨⟨[nat_lit 109,nat_lit 111,nat_lit 115,nat_lit 116]⟩⟩
def a38:Str:=⟨⟨[nat_lit 108,nat_lit 101,nat_lit 110]⟩⟩
def a39:Str:=⟨⟨[nat_lit 70,nat_lit 111,nat_lit 114,nat_lit 109,nat_lit 97,nat_lit 116,nat_lit 69,nat_lit 114,nat_lit 114,nat_lit 111,nat_lit 114]⟩⟩
def a40:Str:=⟨⟨[nat_lit 98,nat_lit 97,nat_lit 100,nat_lit 95,nat_lit 99,nat_lit 111,nat_lit 112,nat_lit 121]⟩⟩
def a41:Str:=⟨⟨[nat_lit 114,nat_lit 97,nat_lit 110,nat_lit 103,nat_lit 101]⟩⟩
def a42:Str:=⟨⟨[nat_lit 97,nat_lit 112,nat_lit 112,nat_lit 101,nat_lit 110,nat_lit 100]⟩⟩
def a43:Str:=⟨⟨[nat_lit 116,nat_lit 121,nat_lit 112,nat_lit 101,nat_lit 46,nat_lit 95,nat_lit 95,nat_lit 115,nat_lit 117,nat_lit 98,nat_lit 99,nat_lit 108,nat_lit 97,nat_lit 115,nat_lit 115,nat_lit 101,nat_lit 115,nat_lit 95,nat_lit 95,nat_lit 46,nat_lit 69,nat_lit 120,nat_lit 99,nat_lit 101,nat_lit 112,nat_lit 116,nat_lit 105,nat_lit 111,nat_lit 110,nat_lit 46,nat_lit 48]⟩⟩
def a44:Str:=⟨⟨[nat_lit 116,nat_lit 121,nat_lit 112,nat_lit 101,nat_lit 46,nat_lit 95,nat_lit 95,nat_lit 115,nat_lit 117,nat_lit 98,nat_lit 99,nat_lit 108,nat_lit 97,nat_lit 115,nat_lit 115,nat_lit 101,nat_lit 115,nat_lit 95,nat_lit 95,nat_lit 46,nat_lit 69,nat_lit 120,nat_lit 99,nat_lit 101,nat_lit 112,nat_lit 116,nat_lit 105,nat_lit 111,nat_lit 110,nat_lit 46,nat_lit 110]⟩⟩
def a45:Str:=⟨⟨[nat_lit 95,nat_lit 108,nat_lit 97,nat_lit 119,nat_lit 95,nat_lit 116,nat_lit 111,nat_lit 107,nat_lit 101,nat_lit 110,nat_lit 115,nat_lit 95,nat_lit 104,nat_lit 111,nat_lit 108,nat_lit 100]⟩⟩
def a46:Str:=⟨⟨[nat_lit 114,nat_lit 101,nat_lit 97,nat_lit 99,nat_lit 104,nat_lit 95,nat_lit 98,nat_lit 97,nat_lit 99,nat_lit 107]⟩⟩
def a47:Str:=⟨⟨[nat_lit 115,nat_lit 112,nat_lit 111,nat_lit 116]⟩⟩
def a48:Str:=⟨⟨[nat_lit 102,nat_lit 105,nat_lit 114,nat_lit 115,nat_lit 116]⟩⟩
def a49:Str:=⟨⟨[nat_lit 115,nat_lit 101,nat_lit 99,nat_lit 111,nat_lit 110,nat_lit 100]⟩⟩
def a50:Str:=⟨⟨[nat_lit 111,nat_lit 112,nat_lit 116,nat_lit 105,nat_lit 111,nat_lit 110,nat_lit 115]⟩⟩
def a51:Str:=⟨⟨[nat_lit 95,nat_lit 108,nat_lit 97,nat_lit 119,nat_lit 95,nat_lit 115,nat_lit 97,nat_lit 109,nat_lit 101]⟩⟩
def a52:Str:=⟨⟨[nat_lit 115,nat_lit 116,nat_lit 97,nat_lit 114,nat_lit 116,nat_lit 95,nat_lit 97,nat_lit 116]⟩⟩
def a53:Str:=⟨⟨[nat_lit 109,nat_lit 97,nat_lit 120]⟩⟩
def a54:Str:=⟨⟨[nat_lit 46,nat_lit 48]⟩⟩
def a55:Str:=⟨⟨[nat_lit 108,nat_lit 111,nat_lit 110,nat_lit 103,nat_lit 101,nat_lit 115,nat_lit 116]⟩⟩
def a56:Str:=⟨⟨[nat_lit 102,nat_lit 97,nat_lit 115,nat_lit 116]⟩⟩
def a57:Str:=⟨⟨[nat_lit 108,nat_lit 97,nat_lit 119,nat_lit 95,nat_lit 112,nat_lit 113,nat_lit 48,nat_lit 55,nat_lit 53,nat_lit 53,nat_lit 95,nat_lit 48,nat_lit 49]⟩⟩
def a58:Str:=⟨⟨[nat_lit 115,nat_lit 97,nat_lit 109,nat_lit 101,nat_lit 95,nat_lit 114,nat_lit 117,nat_lit 110]⟩⟩
def a59:Str:=⟨⟨[nat_lit 112,nat_lit 108,nat_lit 97,nat_lit 99,nat_lit 101]⟩⟩
def a60:Str:=⟨⟨[nat_lit 111,nat_lit 116,nat_lit 104,nat_lit 101,nat_lit 114]⟩⟩
def a61:Str:=⟨⟨[nat_lit 109,nat_lit 111,nat_lit 100,nat_lit 117,nat_lit 108,nat_lit 101,nat_lit 121,nat_lit 97,nat_lit 114,nat_lit 100,nat_lit 46,nat_lit 115,nat_lit 113,nat_lit 117,nat_lit 101,nat_lit 101,nat_lit 122,nat_lit 101]⟩⟩
def a62:Str:=⟨⟨[nat_lit 108,nat_lit 105,nat_lit 103,nat_lit 104,nat_lit 116,nat_lit 101,nat_lit 115,nat_lit 116]⟩⟩
def a63:Str:=⟨⟨[nat_lit 116,nat_lit 114,nat_lit 101,nat_lit 101,nat_lit 115]⟩⟩
def a64:Str:=⟨⟨[nat_lit 98,nat_lit 101,nat_lit 115,nat_lit 116]⟩⟩
def a65:Str:=⟨⟨[nat_lit 112,nat_lit 111,nat_lit 112]⟩⟩
def a66:Str:=⟨⟨[nat_lit 66,nat_lit 105,nat_lit 116,nat_lit 87,nat_lit 114,nat_lit 105,nat_lit 116,nat_lit 101,nat_lit 114]⟩⟩
def a67:Str:=⟨⟨[nat_lit 66,nat_lit 105,nat_lit 116,nat_lit 82,nat_lit 101,nat_lit 97,nat_lit 100,nat_lit 101,nat_lit 114,nat_lit 46,nat_lit 102,nat_lit 105,nat_lit 110,nat_lit 105,nat_lit 115,nat_lit 104]⟩⟩
def a68:Str:=⟨⟨[nat_lit 95,nat_lit 95,nat_lit 110,nat_lit 97,nat_lit 109,nat_lit 101,nat_lit 95,nat_lit 95]⟩⟩
def a69:Str:=⟨⟨[nat_lit 95,nat_lit 95,nat_lit 112,nat_lit 97,nat_lit 99,nat_lit 107,nat_lit 97,nat_lit 103,nat_lit 101,nat_lit 95,nat_lit 95]⟩⟩
def a70:Str:=⟨⟨[nat_lit 95,nat_lit 95,nat_lit 108,nat_lit 111,nat_lit 97,nat_lit 100,nat_lit 101,nat_lit 114,nat_lit 95,nat_lit 95]⟩⟩
def a71:Str:=⟨⟨[nat_lit 95,nat_lit 95,nat_lit 115,nat_lit 112,nat_lit 101,nat_lit 99,nat_lit 95,nat_lit 95]⟩⟩
def a72:Str:=⟨⟨[nat_lit 95,nat_lit 95,nat_lit 97,nat_lit 110,nat_lit 110,nat_lit 111,nat_lit 116,nat_lit 97,nat_lit 116,nat_lit 105,nat_lit 111,nat_lit 110,nat_lit 115,nat_lit 95,nat_lit 95]⟩⟩
def a73:Str:=⟨⟨[nat_lit 95,nat_lit 95,nat_lit 98,nat_lit 117,nat_lit 105,nat_lit 108,nat_lit 116,nat_lit 105,nat_lit 110,nat_lit 115,nat_lit 95,nat_lit 95]⟩⟩
def a74:Str:=⟨⟨[nat_lit 95,nat_lit 95,nat_lit 102,nat_lit 105,nat_lit 108,nat_lit 101,nat_lit 95,nat_lit 95]⟩⟩
def a75:Str:=⟨⟨[nat_lit 95,nat_lit 95,nat_lit 99,nat_lit 97,nat_lit 99,nat_lit 104,nat_lit 101,nat_lit 100,nat_lit 95,nat_lit 95]⟩⟩
def a76:Str:=⟨⟨[nat_lit 89,nat_lit 97,nat_lit 114,nat_lit 100,nat_lit 69,nat_lit 114,nat_lit 114,nat_lit 111,nat_lit 114]⟩⟩
def a77:Str:=⟨⟨[nat_lit 66,nat_lit 121,nat_lit 116,nat_lit 101,nat_lit 87,nat_lit 114,nat_lit 105,nat_lit 116,nat_lit 101,nat_lit 114]⟩⟩
def a78:Str:=⟨⟨[nat_lit 66,nat_lit 121,nat_lit 116,nat_lit 101,nat_lit 82,nat_lit 101,nat_lit 97,nat_lit 100,nat_lit 101,nat_lit 114]⟩⟩
def a79:Str:=⟨⟨[nat_lit 66,nat_lit 105,nat_lit 116,nat_lit 82,nat_lit 101,nat_lit 97,nat_lit 100,nat_lit 101,nat_lit 114]⟩⟩
def a80:Str:=⟨⟨[nat_lit 99,nat_lit 111,nat_lit 100,nat_lit 101,nat_lit 95,nat_lit 108,nat_lit 101,nat_lit 110,nat_lit 103,nat_lit 116,nat_lit 104,nat_lit 115]⟩⟩
def a81:Str:=⟨⟨[nat_lit 111,nat_lit 114,nat_lit 100,nat_lit 101,nat_lit 114,nat_lit 101,nat_lit 100,nat_lit 95,nat_lit 115,nat_lit 121,nat_lit 109,nat_lit 98,nat_lit 111,nat_lit 108,nat_lit 115]⟩⟩
def a82:Str:=⟨⟨[nat_lit 105,nat_lit 115,nat_lit 95,nat_lit 99,nat_lit 111,nat_lit 109,nat_lit 112,nat_lit 108,nat_lit 101,nat_lit 116,nat_lit 101]⟩⟩
def a83:Str:=⟨⟨[nat_lit 68,nat_lit 101,nat_lit 99,nat_lit 111,nat_lit 100,nat_lit 101,nat_lit 114]⟩⟩
def a84:Str:=⟨⟨[nat_lit 76,nat_lit 69,nat_lit 65,nat_lit 83,nat_lit 84,nat_lit 95,nat_lit 67,nat_lit 79,nat_lit 80,nat_lit 89]⟩⟩
def a85:Str:=⟨⟨[nat_lit 77,nat_lit 79,nat_lit 83,nat_lit 84,nat_lit 95,nat_lit 67,nat_lit 79,nat_lit 80,nat_lit 89]⟩⟩
def a86:Str:=⟨⟨[nat_lit 69,nat_lit 78,nat_lit 68]⟩⟩
def a87:Str:=⟨⟨[nat_lit 77,nat_lit 65,nat_lit 73,nat_lit 78,nat_lit 95,nat_lit 83,nat_lit 89,nat_lit 77,nat_lit 66,nat_lit 79,nat_lit 76,nat_lit 83]⟩⟩
def a88:Str:=⟨⟨[nat_lit 104,nat_lit 101,nat_lit 108,nat_lit 100]⟩⟩
def a89:Str:=⟨⟨[nat_lit 114,nat_lit 111,nat_lit 119]⟩⟩
def a90:Str:=⟨⟨[nat_lit 102,nat_lit 111,nat_lit 117,nat_lit 110,nat_lit 100]⟩⟩
def a91:Str:=⟨⟨[nat_lit 109,nat_lit 97,nat_lit 105,nat_lit 110,nat_lit 95,nat_lit 115,nat_lit 121,nat_lit 109,nat_lit 98,nat_lit 111,nat_lit 108]⟩⟩
def a92:Str:=⟨⟨[nat_lit 98,nat_lit 121,nat_lit 116,nat_lit 101]⟩⟩
def a93:Str:=⟨⟨[nat_lit 66,nat_lit 121,nat_lit 116,nat_lit 101,nat_lit 82,nat_lit 101,nat_lit 97,nat_lit 100,nat_lit 101,nat_lit 114,nat_lit 46,nat_lit 98,nat_lit 121,nat_lit 116,nat_lit 101]⟩⟩
def a94:Str:=⟨⟨[nat_lit 100,nat_lit 111,nat_lit 110,nat_lit 101]⟩⟩
def a95:Str:=⟨⟨[nat_lit 102,nat_lit 97,nat_lit 105,nat_lit 108]⟩⟩
def a96:Str:=⟨⟨[nat_lit 99,nat_lit 117,nat_lit 116,nat_lit 95,nat_lit 111,nat_lit 102,nat_lit 102]⟩⟩
def a97:Str:=⟨⟨[nat_lit 97,nat_lit 116]⟩⟩
def a98:Str:=⟨⟨[nat_lit 98,nat_lit 97,nat_lit 100,nat_lit 95,nat_lit 98,nat_lit 121,nat_lit 116,nat_lit 101]⟩⟩
def a99:Str:=⟨⟨[nat_lit 66,nat_lit 105,nat_lit 116,nat_lit 87,nat_lit 114,nat_lit 105,nat_lit 116,nat_lit 101,nat_lit 114,nat_lit 46,nat_lit 95,nat_lit 95,nat_lit 105,nat_lit 110,nat_lit 105,nat_lit 116,nat_lit 95,nat_lit 95]⟩⟩
def a100:Str:=⟨⟨[nat_lit 109,nat_lit 111,nat_lit 100,nat_lit 117,nat_lit 108,nat_lit 101,nat_lit 121,nat_lit 97,nat_lit 114,nat_lit 100,nat_lit 46,nat_lit 112,nat_lit 114,nat_lit 101,nat_lit 102,nat_lit 105,nat_lit 120]⟩⟩
def a101:Str:=⟨⟨[nat_lit 95,nat_lit 95,nat_lit 113,nat_lit 117,nat_lit 97,nat_lit 108,nat_lit 110,nat_lit 97,nat_lit 109,nat_lit 101,nat_lit 95,nat_lit 95]⟩⟩
def a102:Str:=⟨⟨[nat_lit 110,nat_lit 117,nat_lit 109,nat_lit 98,nat_lit 101,nat_lit 114]⟩⟩
def a103:Str:=⟨⟨[nat_lit 108,nat_lit 101,nat_lit 110,nat_lit 103,nat_lit 116,nat_lit 104,nat_lit 115]⟩⟩
def a104:Str:=⟨⟨[nat_lit 115,nat_lit 121,nat_lit 109,nat_lit 98,nat_lit 111,nat_lit 108]⟩⟩
def a105:Str:=⟨⟨[nat_lit 112,nat_lit 97,nat_lit 105,nat_lit 114]⟩⟩
def a106:Str:=⟨⟨[nat_lit 68,nat_lit 101,nat_lit 99,nat_lit 111,nat_lit 100,nat_lit 101,nat_lit 114,nat_lit 46,nat_lit 95,nat_lit 95,nat_lit 105,nat_lit 110,nat_lit 105,nat_lit 116,nat_lit 95,nat_lit 95]⟩⟩
def a107:Str:=⟨⟨[nat_lit 98,nat_lit 97,nat_lit 100,nat_lit 95,nat_lit 99,nat_lit 111,nat_lit 100,nat_lit 101]⟩⟩
def a108:Str:=⟨⟨[nat_lit 115,nat_lit 121,nat_lit 109,nat_lit 98,nat_lit 111,nat_lit 108,nat_lit 115]⟩⟩
def a109:Str:=⟨⟨[nat_lit 105,nat_lit 116,nat_lit 101,nat_lit 109,nat_lit 115]⟩⟩
def a110:Str:=⟨⟨[nat_lit 114,nat_lit 101,nat_lit 97,nat_lit 100,nat_lit 95,nat_lit 108,nat_lit 101,nat_lit 110,nat_lit 103,nat_lit 116,nat_lit 104,nat_lit 115]⟩⟩
def a111:Str:=⟨⟨[nat_lit 114,nat_lit 101,nat_lit 97,nat_lit 100,nat_lit 101,nat_lit 114]⟩⟩
def a112:Str:=⟨⟨[nat_lit 103,nat_lit 97,nat_lit 112]⟩⟩
def a113:Str:=⟨⟨[nat_lit 77,nat_lit 79,nat_lit 83,nat_lit 84,nat_lit 95,nat_lit 76,nat_lit 69,nat_lit 78,nat_lit 71,nat_lit 84,nat_lit 72]⟩⟩
def a114:Str:=⟨⟨[nat_lit 66,nat_lit 121,nat_lit 116,nat_lit 101,nat_lit 87,nat_lit 114,nat_lit 105,nat_lit 116,nat_lit 101,nat_lit 114,nat_lit 46,nat_lit 95,nat_lit 95,nat_lit 105,nat_lit 110,nat_lit 105,nat_lit 116,nat_lit 95,nat_lit 95]⟩⟩
def a115:Str:=⟨⟨[nat_lit 66,nat_lit 105,nat_lit 116,nat_lit 87,nat_lit 114,nat_lit 105,nat_lit 116,nat_lit 101,nat_lit 114,nat_lit 46,nat_lit 98,nat_lit 105,nat_lit 116,nat_lit 115]⟩⟩
def a116:Str:=⟨⟨[nat_lit 114,nat_lit 101,nat_lit 97,nat_lit 100,nat_lit 95,nat_lit 116,nat_lit 97,nat_lit 105,nat_lit 108]⟩⟩
def a117:Str:=⟨⟨[nat_lit 119,nat_lit 114,nat_lit 105,nat_lit 116,nat_lit 101,nat_lit 95,nat_lit 108,nat_lit 101,nat_lit 110,nat_lit 103,nat_lit 116,nat_lit 104,nat_lit 115]⟩⟩
def a118:Str:=⟨⟨[nat_lit 117,nat_lit 115,nat_lit 101,nat_lit 100]⟩⟩
def a119:Str:=⟨⟨[nat_lit 98,nat_lit 101,nat_lit 102,nat_lit 111,nat_lit 114,nat_lit 101]⟩⟩
def a120:Str:=⟨⟨[nat_lit 111,nat_lit 110,nat_lit 101]⟩⟩
def a121:Str:=⟨⟨[nat_lit 66,nat_lit 121,nat_lit 116,nat_lit 101,nat_lit 87,nat_lit 114,nat_lit 105,nat_lit 116,nat_lit 101,nat_lit 114,nat_lit 46,nat_lit 116,nat_lit 101,nat_lit 120,nat_lit 116]⟩⟩
def a122:Str:=⟨⟨[nat_lit 115]⟩⟩
def a123:Str:=⟨⟨[nat_lit 99,nat_lit 111,nat_lit 117,nat_lit 110,nat_lit 116,nat_lit 95,nat_lit 115,nat_lit 121,nat_lit 109,nat_lit 98,nat_lit 111,nat_lit 108,nat_lit 115]⟩⟩
def a124:Str:=⟨⟨[nat_lit 116,nat_lit 111,nat_lit 107,nat_lit 101,nat_lit 110]⟩⟩
def a125:Str:=⟨⟨[nat_lit 99,nat_lit 111,nat_lit 100,nat_lit 101]⟩⟩
def a126:Str:=⟨⟨[nat_lit 66,nat_lit 121,nat_lit 116,nat_lit 101,nat_lit 87,nat_lit 114,nat_lit 105,nat_lit 116,nat_lit 101,nat_lit 114,nat_lit 46,nat_lit 110,nat_lit 117,nat_lit 109,nat_lit 98,nat_lit 101,nat_lit 114,nat_lit 115]⟩⟩
def a127:Str:=⟨⟨[nat_lit 117,nat_lit 110,nat_lit 115,nat_lit 113,nat_lit 117,nat_lit 101,nat_lit 101,nat_lit 122,nat_lit 101]⟩⟩
def a128:Str:=⟨⟨[nat_lit 68,nat_lit 73,nat_lit 83,nat_lit 84,nat_lit 65,nat_lit 78,nat_lit 67,nat_lit 69,nat_lit 95,nat_lit 83,nat_lit 89,nat_lit 77,nat_lit 66,nat_lit 79,nat_lit 76,nat_lit 83]⟩⟩
def a129:Str:=⟨⟨[nat_lit 77,nat_lit 79,nat_lit 83,nat_lit 84,nat_lit 95,nat_lit 87,nat_lit 73,nat_lit 78,nat_lit 68,nat_lit 79,nat_lit 87]⟩⟩
def a130:Str:=⟨⟨[nat_lit 107,nat_lit 101,nat_lit 121,nat_lit 95,nat_lit 97,nat_lit 116]⟩⟩
def a131:Str:=⟨⟨[nat_lit 116,nat_lit 111,nat_lit 107,nat_lit 101,nat_lit 110,nat_lit 115,nat_lit 95,nat_lit 111,nat_lit 102]⟩⟩
def a132:Str:=⟨⟨[nat_lit 119,nat_lit 114,nat_lit 105,nat_lit 116,nat_lit 101,nat_lit 95,nat_lit 116,nat_lit 97,nat_lit 105,nat_lit 108]⟩⟩
def a133:Str:=⟨⟨[nat_lit 119,nat_lit 114,nat_lit 105,nat_lit 116,nat_lit 101,nat_lit 95,nat_lit 116,nat_lit 111,nat_lit 107,nat_lit 101,nat_lit 110,nat_lit 115]⟩⟩
def a134:Str:=⟨⟨[nat_lit 115,nat_lit 113,nat_lit 117,nat_lit 101,nat_lit 101,nat_lit 122,nat_lit 101]⟩⟩
def a135:Str:=⟨⟨[nat_lit 95,nat_lit 108,nat_lit 97,nat_lit 119,nat_lit 95,nat_lit 100,nat_lit 114,nat_lit 97,nat_lit 119]⟩⟩
def a136:Str:=⟨⟨[nat_lit 95,nat_lit 108,nat_lit 97,nat_lit 119,nat_lit 95,nat_lit 112,nat_lit 111,nat_lit 111,nat_lit 108]⟩⟩
def a137:Str:=⟨⟨[nat_lit 108,nat_lit 97,nat_lit 119]⟩⟩
def a138:Str:=⟨⟨[nat_lit 66,nat_lit 105,nat_lit 116,nat_lit 82,nat_lit 101,nat_lit 97,nat_lit 100,nat_lit 101,nat_lit 114,nat_lit 46,nat_lit 95,nat_lit 95,nat_lit 105,nat_lit 110,nat_lit 105,nat_lit 116,nat_lit 95,nat_lit 95]⟩⟩
def a139:Str:=⟨⟨[nat_lit 107,nat_lit 110,nat_lit 111,nat_lit 119,nat_lit 110]⟩⟩
def a140:Str:=⟨⟨[nat_lit 103,nat_lit 101,nat_lit 116]⟩⟩
def a141:Str:=⟨⟨[nat_lit 115,nat_lit 116,nat_lit 101,nat_lit 112]⟩⟩
def a142:Str:=⟨⟨[nat_lit 109,nat_lit 105,nat_lit 110]⟩⟩
def a143:Str:=⟨⟨[nat_lit 115,nat_lit 101,nat_lit 116,nat_lit 100,nat_lit 101,nat_lit 102,nat_lit 97,nat_lit 117,nat_lit 108,nat_lit 116]⟩⟩
def a144:Str:=⟨⟨[nat_lit 66,nat_lit 121,nat_lit 116,nat_lit 101,nat_lit 87,nat_lit 114,nat_lit 105,nat_lit 116,nat_lit 101,nat_lit 114,nat_lit 46,nat_lit 98,nat_lit 121,nat_lit 116,nat_lit 101]⟩⟩
def a145:Str:=⟨⟨[nat_lit 116,nat_lit 111,nat_lit 116,nat_lit 97,nat_lit 108]⟩⟩
def a146:Str:=⟨⟨[nat_lit 98,nat_lit 105,nat_lit 116]⟩⟩
def a147:Str:=⟨⟨[nat_lit 66,nat_lit 105,nat_lit 116,nat_lit 82,nat_lit 101,nat_lit 97,nat_lit 100,nat_lit 101,nat_lit 114,nat_lit 46,nat_lit 98,nat_lit 105,nat_lit 116]⟩⟩
def a148:Str:=⟨⟨[nat_lit 116,nat_lit 111,nat_lit 111,nat_lit 95,nat_lit 108,nat_lit 111,nat_lit 110,nat_lit 103]⟩⟩
def a149:Str:=⟨⟨[nat_lit 115,nat_lit 111,nat_lit 114,nat_lit 116,nat_lit 101,nat_lit 100]⟩⟩
def a150:Str:=⟨⟨[nat_lit 98,nat_lit 105,nat_lit 116,nat_lit 95,nat_lit 108,nat_lit 101,nat_lit 110,nat_lit 103,nat_lit 116,nat_lit 104]⟩⟩
def a151:Str:=⟨⟨[nat_lit 112,nat_lit 108,nat_lit 97,nat_lit 99,nat_lit 101,nat_lit 115]⟩⟩
def a152:Str:=⟨⟨[nat_lit 66,nat_lit 121,nat_lit 116,nat_lit 101,nat_lit 82,nat_lit 101,nat_lit 97,nat_lit 100,nat_lit 101,nat_lit 114,nat_lit 46,nat_lit 95,nat_lit 95,nat_lit 105,nat_lit 110,nat_lit 105,nat_lit 116,nat_lit 95,nat_lit 95]⟩⟩
def a153:Str:=⟨⟨[nat_lit 99,nat_lit 111,nat_lit 100,nat_lit 101,nat_lit 115]⟩⟩
def a154:Str:=⟨⟨[nat_lit 115,nat_lit 99,nat_lit 114,nat_lit 105,nat_lit 112,nat_lit 116]⟩⟩
def a155:Str:=⟨⟨[nat_lit 99,nat_lit 101,nat_lit 108,nat_lit 108,nat_lit 115]⟩⟩
def a156:Str:=⟨⟨[nat_lit 105,nat_lit 110,nat_lit 116]⟩⟩
def a157:Str:=⟨⟨[nat_lit 99,nat_lit 101,nat_lit 108,nat_lit 108]⟩⟩
def a158:Str:=⟨⟨[nat_lit 115,nat_lit 117,nat_lit 109]⟩⟩
def a159:Str:=⟨⟨[nat_lit 66,nat_lit 121,nat_lit 116,nat_lit 101,nat_lit 82,nat_lit 101,nat_lit 97,nat_lit 100,nat_lit 101,nat_lit 114,nat_lit 46,nat_lit 99,nat_lit 111,nat_lit 117,nat_lit 110,nat_lit 116]⟩⟩
def a160:Str:=⟨⟨[nat_lit 66,nat_lit 121,nat_lit 116,nat_lit 101,nat_lit 82,nat_lit 101,nat_lit 97,nat_lit 100,nat_lit 101,nat_lit 114,nat_lit 46,nat_lit 100,nat_lit 111,nat_lit 110,nat_lit 101]⟩⟩
def a161:Str:=⟨⟨[nat_lit 107]⟩⟩
def a162:Str:=⟨⟨[nat_lit 95,nat_lit 95,nat_lit 109,nat_lit 97,nat_lit 105,nat_lit 110,nat_lit 95,nat_lit 95]⟩⟩
def a163:Str:=⟨⟨[nat_lit 119,nat_lit 104,nat_lit 97,nat_lit 116]⟩⟩
def a164:Str:=⟨⟨[nat_lit 70,nat_lit 111,nat_lit 114,nat_lit 109,nat_lit 97,nat_lit 116,nat_lit 69,nat_lit 114,nat_lit 114,nat_lit 111,nat_lit 114,nat_lit 46,nat_lit 95,nat_lit 95,nat_lit 105,nat_lit 110,nat_lit 105,nat_lit 116,nat_lit 95,nat_lit 95]⟩⟩
def a165:Str:=⟨⟨[nat_lit 110]⟩⟩
def a166:Str:=⟨⟨[nat_lit 114,nat_lit 101,nat_lit 115,nat_lit 116]⟩⟩
def a167:Str:=⟨⟨[nat_lit 66,nat_lit 121,nat_lit 116,nat_lit 101,nat_lit 87,nat_lit 114,nat_lit 105,nat_lit 116,nat_lit 101,nat_lit 114,nat_lit 46,nat_lit 110,nat_lit 117,nat_lit 109,nat_lit 98,nat_lit 101,nat_lit 114]⟩⟩
def a168:Str:=⟨⟨[nat_lit 66,nat_lit 121,nat_lit 116,nat_lit 101,nat_lit 82,nat_lit 101,nat_lit 97,nat_lit 100,nat_lit 101,nat_lit 114,nat_lit 46,nat_lit 102,nat_lit 97,nat_lit 105,nat_lit 108]⟩⟩
def a169:Str:=⟨⟨[nat_lit 119,nat_lit 101,nat_lit 105,nat_lit 103,nat_lit 104,nat_lit 116]⟩⟩
def a170:Str:=⟨⟨[nat_lit 103,nat_lit 114,nat_lit 111,nat_lit 117,nat_lit 112]⟩⟩
def a171:Str:=⟨⟨[nat_lit 66,nat_lit 121,nat_lit 116,nat_lit 101,nat_lit 82,nat_lit 101,nat_lit 97,nat_lit 100,nat_lit 101,nat_lit 114,nat_lit 46,nat_lit 110,nat_lit 117,nat_lit 109,nat_lit 98,nat_lit 101,nat_lit 114]⟩⟩
def a172:Str:=⟨⟨[nat_lit 108,nat_lit 111,nat_lit 110,nat_lit 103,nat_lit 95,nat_lit 110,nat_lit 117,nat_lit 109,nat_lit 98,nat_lit 101,nat_lit 114]⟩⟩
def a173:Str:=⟨⟨[nat_lit 98,nat_lit 97,nat_lit 100,nat_lit 95,nat_lit 99,nat_lit 111,nat_lit 117,nat_lit 110,nat_lit 116]⟩⟩
def a174:Str:=⟨⟨[nat_lit 66,nat_lit 105,nat_lit 116,nat_lit 82,nat_lit 101,nat_lit 97,nat_lit 100,nat_lit 101,nat_lit 114,nat_lit 46,nat_lit 98,nat_lit 105,nat_lit 116,nat_lit 115]⟩⟩
def a175:Str:=⟨⟨[nat_lit 98,nat_lit 97,nat_lit 100,nat_lit 95,nat_lit 102,nat_lit 105,nat_lit 108,nat_lit 108,nat_lit 105,nat_lit 110,nat_lit 103]⟩⟩
def a176:Str:=⟨⟨[nat_lit 108,nat_lit 101,nat_lit 102,nat_lit 116,nat_lit 95,nat_lit 111,nat_lit 118,nat_lit 101,nat_lit 114]⟩⟩
def a177:Str:=⟨⟨[nat_lit 68,nat_lit 101,nat_lit 99,nat_lit 111,nat_lit 100,nat_lit 101,nat_lit 114,nat_lit 46,nat_lit 115,nat_lit 121,nat_lit 109,nat_lit 98,nat_lit 111,nat_lit 108]⟩⟩
def a178:Str:=⟨⟨[nat_lit 114,nat_lit 101,nat_lit 118,nat_lit 101,nat_lit 114,nat_lit 115,nat_lit 101,nat_lit 100]⟩⟩
def a179:Str:=⟨⟨[nat_lit 112,nat_lit 111,nat_lit 111,nat_lit 108]⟩⟩
def a180:Str:=⟨⟨[nat_lit 108,nat_lit 105,nat_lit 109,nat_lit 105,nat_lit 116]⟩⟩
def a181:Str:=⟨⟨[nat_lit 114,nat_lit 101,nat_lit 115,nat_lit 116,nat_lit 95,nat_lit 111,nat_lit 102,nat_lit 95,nat_lit 99,nat_lit 101,nat_lit 108,nat_lit 108]⟩⟩
def a182:Str:=⟨⟨[nat_lit 97,nat_lit 98,nat_lit 115]⟩⟩
def a183:Str:=⟨⟨[nat_lit 95]⟩⟩
def a184:Str:=⟨⟨[nat_lit 108,nat_lit 105,nat_lit 115,nat_lit 116]⟩⟩
def a185:Str:=⟨⟨[nat_lit 115,nat_lit 109,nat_lit 97,nat_lit 108,nat_lit 108]⟩⟩
def a186:Str:=⟨⟨[nat_lit 115,nat_lit 112,nat_lit 111,nat_lit 105,nat_lit 108,nat_lit 101,nat_lit 100]⟩⟩
def a187:Str:=⟨⟨[nat_lit 111,nat_lit 100,nat_lit 100]⟩⟩
def a188:Str:=⟨⟨[nat_lit 60,nat_lit 109,nat_lit 111,nat_lit 100,nat_lit 117,nat_lit 108,nat_lit 101,nat_lit 62]⟩⟩
def a189:Str:=⟨⟨[nat_lit 69,nat_lit 120,nat_lit 99,nat_lit 101,nat_lit 112,nat_lit 116,nat_lit 105,nat_lit 111,nat_lit 110]⟩⟩
noncomputable abbrev PP:Program:=PySem.Challenge.rw_pq0755_01.row.toRowW.1
noncomputable def PX:(F:Str→Str→Str→Str→Str→Str→Str→Str→Str→Str→Str→Str→Str→Str→Str→Str→Str→Str→Str→Str→Str→Str→Str→Str→Str→Str→Str→Str→Str→Str→Str→Str→Str→Str→Str→Str→Str→Str→Str→Str→Str→Str→Str→Str→Str→Str→Str→Str→Str→Str→Str→Str→Str→Str→Str→Str→Str→Str→Str→Str→Str→Str→Str→Str→Str→Str→Str→Str→Str→Str→Str→Str→Str→Str→Str→Str→Str→Str→Str→Str→Str→Str→Str→Str→Str→Str→Str→Str→Str→Str→Str→Str→Str→Str→Str→Str→Str→Str→Str→Str→Str→Str→Str→Str→Str→Str→Str→Str→Str→Str→Str→Str→Str→Str→Str→Str→Str→Str→Str→Str→Str→Str→Str→Str→Str→Str→Str→Str→Str→Str→Str→Str→Str→Str→Str→Str→Str→Str→Str→Str→Str→Str→Str→Str→Str→Str→Str→Str→Str→Program) ×' F "__name__" "law_pq0755_01" "_law_draw" "pool" "limit" "abs" "pop" "rest_of_cell" "_law_pool" "script" "cells" "int" "cell" ".0" "sum" "fast" "_law_same" "data" "one" "other" "count" "len" "_law_tokens_hold" "reach_back" "tokens" "spot" "first" "second" "options" "start_at" "range" "max" "longest" "law" "_" "append" "tokens_of" "list" "small" "squeeze" "unsqueeze" "FormatError" "spoiled" "odd" "window" "min" "MOST_WINDOW" "counts" "distance_counts" "count_symbols" "main" "code_lengths" "distances" "writer" "ByteWriter" "write_lengths" "bits" "BitWriter" "write_tokens" "codes_of" "out" "finish" "read_lengths" "reader" "symbols" "lengths" "symbol" "turn" "gap" "number" "length" "MOST_LENGTH" "fail" "bad_code" "read_tail" "width" "copy_back" "distance" "most" "bad_copy" "ByteReader" "Decoder" "MAIN_SYMBOLS" "DISTANCE_SYMBOLS" "BitReader" "at" "END" "too_long" "LEAST_COPY" "known" "best_copy" "get" "key_at" "step" "place" "setdefault" "main_symbol" "token" "bit_length" "write_tail" "value" "code" "used" "before" "same_run" "places" "MOST_COPY" "best" "reversed" "moduleyard.squeeze" "trees" "lightest" "ordered_symbols" "sorted" "codes" "is_complete" "found" "total" "__init__" "self" "pair" "items" "bit" "byte" "n" "rest" "text" "s" "_wall" "numbers" "row" "what" "done" "cut_off" "bad_byte" "weight" "group" "long_number" "bad_count" "moduleyard.prefix" "held" "bad_filling" "left_over" "k" "moduleyard.errors" "YardError" "Exception" "moduleyard.bytesio" "/claim/cut.py" = PP:=by
 refine ⟨?F,?h⟩
 case h=>
  show _=PySem.Challenge.pw_pq0755_01
  unfold PySem.Challenge.pw_pq0755_01
  generalize Str.ofString "__name__" = s0,Str.ofString "law_pq0755_01" = s1,Str.ofString "_law_draw" = s2,Str.ofString "pool" = s3,Str.ofString "limit" = s4,Str.ofString "abs" = s5,Str.ofString "pop" = s6,Str.ofString "rest_of_cell" = s7,Str.ofString "_law_pool" = s8,Str.ofString "script" = s9,Str.ofString "cells" = s10,Str.ofString "int" = s11,Str.ofString "cell" = s12,Str.ofString ".0" = s13,Str.ofString "sum" = s14,Str.ofString "fast" = s15,Str.ofString "_law_same" = s16,Str.ofString "data" = s17,Str.ofString "one" = s18,Str.ofString "other" = s19,Str.ofString "count" = s20,Str.ofString "len" = s21,Str.ofString "_law_tokens_hold" = s22,Str.ofString "reach_back" = s23,Str.ofString "tokens" = s24,Str.ofString "spot" = s25,Str.ofString "first" = s26,Str.ofString "second" = s27,Str.ofString "options" = s28,Str.ofString "start_at" = s29,Str.ofString "range" = s30,Str.ofString "max" = s31,Str.ofString "longest" = s32,Str.ofString "law" = s33,Str.ofString "_" = s34,Str.ofString "append" = s35,Str.ofString "tokens_of" = s36,Str.ofString "list" = s37,Str.ofString "small" = s38,Str.ofString "squeeze" = s39,Str.ofString "unsqueeze" = s40,Str.ofString "FormatError" = s41,Str.ofString "spoiled" = s42,Str.ofString "odd" = s43,Str.ofString "window" = s44,Str.ofString "min" = s45,Str.ofString "MOST_WINDOW" = s46,Str.ofString "counts" = s47,Str.ofString "distance_counts" = s48,Str.ofString "count_symbols" = s49,Str.ofString "main" = s50,Str.ofString "code_lengths" = s51,Str.ofString "distances" = s52,Str.ofString "writer" = s53,Str.ofString "ByteWriter" = s54,Str.ofString "write_lengths" = s55,Str.ofString "bits" = s56,Str.ofString "BitWriter" = s57,Str.ofString "write_tokens" = s58,Str.ofString "codes_of" = s59,Str.ofString "out" = s60,Str.ofString "finish" = s61,Str.ofString "read_lengths" = s62,Str.ofString "reader" = s63,Str.ofString "symbols" = s64,Str.ofString "lengths" = s65,Str.ofString "symbol" = s66,Str.ofString "turn" = s67,Str.ofString "gap" = s68,Str.ofString "number" = s69,Str.ofString "length" = s70,Str.ofString "MOST_LENGTH" = s71,Str.ofString "fail" = s72,Str.ofString "bad_code" = s73,Str.ofString "read_tail" = s74,Str.ofString "width" = s75,Str.ofString "copy_back" = s76,Str.ofString "distance" = s77,Str.ofString "most" = s78,Str.ofString "bad_copy" = s79,Str.ofString "ByteReader" = s80,Str.ofString "Decoder" = s81,Str.ofString "MAIN_SYMBOLS" = s82,Str.ofString "DISTANCE_SYMBOLS" = s83,Str.ofString "BitReader" = s84,Str.ofString "at" = s85,Str.ofString "END" = s86,Str.ofString "too_long" = s87,Str.ofString "LEAST_COPY" = s88,Str.ofString "known" = s89,Str.ofString "best_copy" = s90,Str.ofString "get" = s91,Str.ofString "key_at" = s92,Str.ofString "step" = s93,Str.ofString "place" = s94,Str.ofString "setdefault" = s95,Str.ofString "main_symbol" = s96,Str.ofString "token" = s97,Str.ofString "bit_length" = s98,Str.ofString "write_tail" = s99,Str.ofString "value" = s100,Str.ofString "code" = s101,Str.ofString "used" = s102,Str.ofString "before" = s103,Str.ofString "same_run" = s104,Str.ofString "places" = s105,Str.ofString "MOST_COPY" = s106,Str.ofString "best" = s107,Str.ofString "reversed" = s108,Str.ofString "moduleyard.squeeze" = s109,Str.ofString "trees" = s110,Str.ofString "lightest" = s111,Str.ofString "ordered_symbols" = s112,Str.ofString "sorted" = s113,Str.ofString "codes" = s114,Str.ofString "is_complete" = s115,Str.ofString "found" = s116,Str.ofString "total" = s117,Str.ofString "__init__" = s118,Str.ofString "self" = s119,Str.ofString "pair" = s120,Str.ofString "items" = s121,Str.ofString "bit" = s122,Str.ofString "byte" = s123,Str.ofString "n" = s124,Str.ofString "rest" = s125,Str.ofString "text" = s126,Str.ofString "s" = s127,Str.ofString "_wall" = s128,Str.ofString "numbers" = s129,Str.ofString "row" = s130,Str.ofString "what" = s131,Str.ofString "done" = s132,Str.ofString "cut_off" = s133,Str.ofString "bad_byte" = s134,Str.ofString "weight" = s135,Str.ofString "group" = s136,Str.ofString "long_number" = s137,Str.ofString "bad_count" = s138,Str.ofString "moduleyard.prefix" = s139,Str.ofString "held" = s140,Str.ofString "bad_filling" = s141,Str.ofString "left_over" = s142,Str.ofString "k" = s143,Str.ofString "moduleyard.errors" = s144,Str.ofString "YardError" = s145,Str.ofString "Exception" = s146,Str.ofString "moduleyard.bytesio" = s147,Str.ofString "/claim/cut.py" = s148
  exact rfl
noncomputable def PF:Str→Str→Str→Str→Str→Str→Str→Str→Str→Str→Str→Str→Str→Str→Str→Str→Str→Str→Str→Str→Str→Str→Str→Str→Str→Str→Str→Str→Str→Str→Str→Str→Str→Str→Str→Str→Str→Str→Str→Str→Str→Str→Str→Str→Str→Str→Str→Str→Str→Str→Str→Str→Str→Str→Str→Str→Str→Str→Str→Str→Str→Str→Str→Str→Str→Str→Str→Str→Str→Str→Str→Str→Str→Str→Str→Str→Str→Str→Str→Str→Str→Str→Str→Str→Str→Str→Str→Str→Str→Str→Str→Str→Str→Str→Str→Str→Str→Str→Str→Str→Str→Str→Str→Str→Str→Str→Str→Str→Str→Str→Str→Str→Str→Str→Str→Str→Str→Str→Str→Str→Str→Str→Str→Str→Str→Str→Str→Str→Str→Str→Str→Str→Str→Str→Str→Str→Str→Str→Str→Str→Str→Str→Str→Str→Str→Str→Str→Str→Str→Program:=PX.1
theorem ea0:Str.ofString "__name__" = a68:=W.Fast.ofString_ofList ['_','_','n','a','m','e','_','_']
theorem ea1:Str.ofString "law_pq0755_01" = a57:=W.Fast.ofString_ofList ['l','a','w','_','p','q','0','7','5','5','_','0','1']
theorem ea2:Str.ofString "_law_draw" = a135:=W.Fast.ofString_ofList ['_','l','a','w','_','d','r','a','w']
theorem ea3:Str.ofString "pool" = a179:=W.Fast.ofString_ofList ['p','o','o','l']
theorem ea4:Str.ofString "limit" = a180:=W.Fast.ofString_ofList ['l','i','m','i','t']
theorem ea5:Str.ofString "abs" = a182:=W.Fast.ofString_ofList ['a','b','s']
theorem ea6:Str.ofString "pop" = a65:=W.Fast.ofString_ofList ['p','o','p']
theorem ea7:Str.ofString "rest_of_cell" = a181:=W.Fast.ofString_ofList ['r','e','s','t','_','o','f','_','c','e','l','l']
theorem ea8:Str.ofString "_law_pool" = a136:=W.Fast.ofString_ofList ['_','l','a','w','_','p','o','o','l']
theorem ea9:Str.ofString "script" = a154:=W.Fast.ofString_ofList ['s','c','r','i','p','t']
theorem ea10:Str.ofString "cells" = a155:=W.Fast.ofString_ofList ['c','e','l','l','s']
theorem ea11:Str.ofString "int" = a156:=W.Fast.ofString_ofList ['i','n','t']
theorem ea12:Str.ofString "cell" = a157:=W.Fast.ofString_ofList ['c','e','l','l']
theorem ea13:Str.ofString ".0" = a54:=W.Fast.ofString_ofList ['.','0']
theorem ea14:Str.ofString "sum" = a158:=W.Fast.ofString_ofList ['s','u','m']
theorem ea15:Str.ofString "fast" = a56:=W.Fast.ofString_ofList ['f','a','s','t']
theorem ea16:Str.ofString "_law_same" = a51:=W.Fast.ofString_ofList ['_','l','a','w','_','s','a','m','e']
theorem ea17:Str.ofString "data" = a16:=W.Fast.ofString_ofList ['d','a','t','a']
theorem ea18:Str.ofString "one" = a120:=W.Fast.ofString_ofList ['o','n','e']
theorem ea19:Str.ofString "other" = a60:=W.Fast.ofString_ofList ['o','t','h','e','r']
theorem ea20:Str.ofString "count" = a6:=W.Fast.ofString_ofList ['c','o','u','n','t']
theorem ea21:Str.ofString "len" = a38:=W.Fast.ofString_ofList ['l','e','n']
theorem ea22:Str.ofString "_law_tokens_hold" = a45:=W.Fast.ofString_ofList ['_','l','a','w','_','t','o','k','e','n','s','_','h','o','l','d']
theorem ea23:Str.ofString "reach_back" = a46:=W.Fast.ofString_ofList ['r','e','a','c','h','_','b','a','c','k']
theorem ea24:Str.ofString "tokens" = a18:=W.Fast.ofString_ofList ['t','o','k','e','n','s']
theorem ea25:Str.ofString "spot" = a47:=W.Fast.ofString_ofList ['s','p','o','t']
theorem ea26:Str.ofString "first" = a48:=W.Fast.ofString_ofList ['f','i','r','s','t']
theorem ea27:Str.ofString "second" = a49:=W.Fast.ofString_ofList ['s','e','c','o','n','d']
theorem ea28:Str.ofString "options" = a50:=W.Fast.ofString_ofList ['o','p','t','i','o','n','s']
theorem ea29:Str.ofString "start_at" = a52:=W.Fast.ofString_ofList ['s','t','a','r','t','_','a','t']
theorem ea30:Str.ofString "range" = a41:=W.Fast.ofString_ofList ['r','a','n','g','e']
theorem ea31:Str.ofString "max" = a53:=W.Fast.ofString_ofList ['m','a','x']
theorem ea32:Str.ofString "longest" = a55:=W.Fast.ofString_ofList ['l','o','n','g','e','s','t']
theorem ea33:Str.ofString "law" = a137:=W.Fast.ofString_ofList ['l','a','w']
theorem ea34:Str.ofString "_" = a183:=W.Fast.ofString_ofList ['_']
theorem ea35:Str.ofString "append" = a42:=W.Fast.ofString_ofList ['a','p','p','e','n','d']
theorem ea36:Str.ofString "tokens_of" = a131:=W.Fast.ofString_ofList ['t','o','k','e','n','s','_','o','f']
theorem ea37:Str.ofString "list" = a184:=W.Fast.ofString_ofList ['l','i','s','t']
theorem ea38:Str.ofString "small" = a185:=W.Fast.ofString_ofList ['s','m','a','l','l']
theorem ea39:Str.ofString "squeeze" = a134:=W.Fast.ofString_ofList ['s','q','u','e','e','z','e']
theorem ea40:Str.ofString "unsqueeze" = a127:=W.Fast.ofString_ofList ['u','n','s','q','u','e','e','z','e']
theorem ea41:Str.ofString "FormatError" = a39:=W.Fast.ofString_ofList ['F','o','r','m','a','t','E','r','r','o','r']
theorem ea42:Str.ofString "spoiled" = a186:=W.Fast.ofString_ofList ['s','p','o','i','l','e','d']
theorem ea43:Str.ofString "odd" = a187:=W.Fast.ofString_ofList ['o','d','d']
theorem ea44:Str.ofString "window" = a17:=W.Fast.ofString_ofList ['w','i','n','d','o','w']
theorem ea45:Str.ofString "min" = a142:=W.Fast.ofString_ofList ['m','i','n']
theorem ea46:Str.ofString "MOST_WINDOW" = a129:=W.Fast.ofString_ofList ['M','O','S','T','_','W','I','N','D','O','W']
theorem ea47:Str.ofString "counts" = a19:=W.Fast.ofString_ofList ['c','o','u','n','t','s']
theorem ea48:Str.ofString "distance_counts" = a20:=W.Fast.ofString_ofList ['d','i','s','t','a','n','c','e','_','c','o','u','n','t','s']
theorem ea49:Str.ofString "count_symbols" = a123:=W.Fast.ofString_ofList ['c','o','u','n','t','_','s','y','m','b','o','l','s']
theorem ea50:Str.ofString "main" = a21:=W.Fast.ofString_ofList ['m','a','i','n']
theorem ea51:Str.ofString "code_lengths" = a80:=W.Fast.ofString_ofList ['c','o','d','e','_','l','e','n','g','t','h','s']
theorem ea52:Str.ofString "distances" = a22:=W.Fast.ofString_ofList ['d','i','s','t','a','n','c','e','s']
theorem ea53:Str.ofString "writer" = a23:=W.Fast.ofString_ofList ['w','r','i','t','e','r']
theorem ea54:Str.ofString "ByteWriter" = a77:=W.Fast.ofString_ofList ['B','y','t','e','W','r','i','t','e','r']
theorem ea55:Str.ofString "write_lengths" = a117:=W.Fast.ofString_ofList ['w','r','i','t','e','_','l','e','n','g','t','h','s']
theorem ea56:Str.ofString "bits" = a7:=W.Fast.ofString_ofList ['b','i','t','s']
theorem ea57:Str.ofString "BitWriter" = a66:=W.Fast.ofString_ofList ['B','i','t','W','r','i','t','e','r']
theorem ea58:Str.ofString "write_tokens" = a133:=W.Fast.ofString_ofList ['w','r','i','t','e','_','t','o','k','e','n','s']
theorem ea59:Str.ofString "codes_of" = a9:=W.Fast.ofString_ofList ['c','o','d','e','s','_','o','f']
theorem ea60:Str.ofString "out" = a8:=W.Fast.ofString_ofList ['o','u','t']
theorem ea61:Str.ofString "finish" = a3:=W.Fast.ofString_ofList ['f','i','n','i','s','h']
theorem ea62:Str.ofString "read_lengths" = a110:=W.Fast.ofString_ofList ['r','e','a','d','_','l','e','n','g','t','h','s']
theorem ea63:Str.ofString "reader" = a111:=W.Fast.ofString_ofList ['r','e','a','d','e','r']
theorem ea64:Str.ofString "symbols" = a108:=W.Fast.ofString_ofList ['s','y','m','b','o','l','s']
theorem ea65:Str.ofString "lengths" = a103:=W.Fast.ofString_ofList ['l','e','n','g','t','h','s']
theorem ea66:Str.ofString "symbol" = a104:=W.Fast.ofString_ofList ['s','y','m','b','o','l']
theorem ea67:Str.ofString "turn" = a30:=W.Fast.ofString_ofList ['t','u','r','n']
theorem ea68:Str.ofString "gap" = a112:=W.Fast.ofString_ofList ['g','a','p']
theorem ea69:Str.ofString "number" = a102:=W.Fast.ofString_ofList ['n','u','m','b','e','r']
theorem ea70:Str.ofString "length" = a35:=W.Fast.ofString_ofList ['l','e','n','g','t','h']
theorem ea71:Str.ofString "MOST_LENGTH" = a113:=W.Fast.ofString_ofList ['M','O','S','T','_','L','E','N','G','T','H']
theorem ea72:Str.ofString "fail" = a95:=W.Fast.ofString_ofList ['f','a','i','l']
theorem ea73:Str.ofString "bad_code" = a107:=W.Fast.ofString_ofList ['b','a','d','_','c','o','d','e']
theorem ea74:Str.ofString "read_tail" = a116:=W.Fast.ofString_ofList ['r','e','a','d','_','t','a','i','l']
theorem ea75:Str.ofString "width" = a28:=W.Fast.ofString_ofList ['w','i','d','t','h']
theorem ea76:Str.ofString "copy_back" = a34:=W.Fast.ofString_ofList ['c','o','p','y','_','b','a','c','k']
theorem ea77:Str.ofString "distance" = a36:=W.Fast.ofString_ofList ['d','i','s','t','a','n','c','e']
theorem ea78:Str.ofString "most" = a37:=W.Fast.ofString_ofList ['m','o','s','t']
theorem ea79:Str.ofString "bad_copy" = a40:=W.Fast.ofString_ofList ['b','a','d','_','c','o','p','y']
theorem ea80:Str.ofString "ByteReader" = a78:=W.Fast.ofString_ofList ['B','y','t','e','R','e','a','d','e','r']
theorem ea81:Str.ofString "Decoder" = a83:=W.Fast.ofString_ofList ['D','e','c','o','d','e','r']
theorem ea82:Str.ofString "MAIN_SYMBOLS" = a87:=W.Fast.ofString_ofList ['M','A','I','N','_','S','Y','M','B','O','L','S']
theorem ea83:Str.ofString "DISTANCE_SYMBOLS" = a128:=W.Fast.ofString_ofList ['D','I','S','T','A','N','C','E','_','S','Y','M','B','O','L','S']
theorem ea84:Str.ofString "BitReader" = a79:=W.Fast.ofString_ofList ['B','i','t','R','e','a','d','e','r']
theorem ea85:Str.ofString "at" = a97:=W.Fast.ofString_ofList ['a','t']
theorem ea86:Str.ofString "END" = a86:=W.Fast.ofString_ofList ['E','N','D']
theorem ea87:Str.ofString "too_long" = a148:=W.Fast.ofString_ofList ['t','o','o','_','l','o','n','g']
theorem ea88:Str.ofString "LEAST_COPY" = a84:=W.Fast.ofString_ofList ['L','E','A','S','T','_','C','O','P','Y']
theorem ea89:Str.ofString "known" = a139:=W.Fast.ofString_ofList ['k','n','o','w','n']
theorem ea90:Str.ofString "best_copy" = a0:=W.Fast.ofString_ofList ['b','e','s','t','_','c','o','p','y']
theorem ea91:Str.ofString "get" = a140:=W.Fast.ofString_ofList ['g','e','t']
theorem ea92:Str.ofString "key_at" = a130:=W.Fast.ofString_ofList ['k','e','y','_','a','t']
theorem ea93:Str.ofString "step" = a141:=W.Fast.ofString_ofList ['s','t','e','p']
theorem ea94:Str.ofString "place" = a59:=W.Fast.ofString_ofList ['p','l','a','c','e']
theorem ea95:Str.ofString "setdefault" = a143:=W.Fast.ofString_ofList ['s','e','t','d','e','f','a','u','l','t']
theorem ea96:Str.ofString "main_symbol" = a91:=W.Fast.ofString_ofList ['m','a','i','n','_','s','y','m','b','o','l']
theorem ea97:Str.ofString "token" = a124:=W.Fast.ofString_ofList ['t','o','k','e','n']
theorem ea98:Str.ofString "bit_length" = a150:=W.Fast.ofString_ofList ['b','i','t','_','l','e','n','g','t','h']
theorem ea99:Str.ofString "write_tail" = a132:=W.Fast.ofString_ofList ['w','r','i','t','e','_','t','a','i','l']
theorem ea100:Str.ofString "value" = a29:=W.Fast.ofString_ofList ['v','a','l','u','e']
theorem ea101:Str.ofString "code" = a125:=W.Fast.ofString_ofList ['c','o','d','e']
theorem ea102:Str.ofString "used" = a118:=W.Fast.ofString_ofList ['u','s','e','d']
theorem ea103:Str.ofString "before" = a119:=W.Fast.ofString_ofList ['b','e','f','o','r','e']
theorem ea104:Str.ofString "same_run" = a58:=W.Fast.ofString_ofList ['s','a','m','e','_','r','u','n']
theorem ea105:Str.ofString "places" = a151:=W.Fast.ofString_ofList ['p','l','a','c','e','s']
theorem ea106:Str.ofString "MOST_COPY" = a85:=W.Fast.ofString_ofList ['M','O','S','T','_','C','O','P','Y']
theorem ea107:Str.ofString "best" = a64:=W.Fast.ofString_ofList ['b','e','s','t']
theorem ea108:Str.ofString "reversed" = a178:=W.Fast.ofString_ofList ['r','e','v','e','r','s','e','d']
theorem ea109:Str.ofString "moduleyard.squeeze" = a61:=W.Fast.ofString_ofList ['m','o','d','u','l','e','y','a','r','d','.','s','q','u','e','e','z','e']
theorem ea110:Str.ofString "trees" = a63:=W.Fast.ofString_ofList ['t','r','e','e','s']
theorem ea111:Str.ofString "lightest" = a62:=W.Fast.ofString_ofList ['l','i','g','h','t','e','s','t']
theorem ea112:Str.ofString "ordered_symbols" = a81:=W.Fast.ofString_ofList ['o','r','d','e','r','e','d','_','s','y','m','b','o','l','s']
theorem ea113:Str.ofString "sorted" = a149:=W.Fast.ofString_ofList ['s','o','r','t','e','d']
theorem ea114:Str.ofString "codes" = a153:=W.Fast.ofString_ofList ['c','o','d','e','s']
theorem ea115:Str.ofString "is_complete" = a82:=W.Fast.ofString_ofList ['i','s','_','c','o','m','p','l','e','t','e']
theorem ea116:Str.ofString "found" = a90:=W.Fast.ofString_ofList ['f','o','u','n','d']
theorem ea117:Str.ofString "total" = a145:=W.Fast.ofString_ofList ['t','o','t','a','l']
theorem ea118:Str.ofString "__init__" = a13:=W.Fast.ofString_ofList ['_','_','i','n','i','t','_','_']
theorem ea119:Str.ofString "self" = a5:=W.Fast.ofString_ofList ['s','e','l','f']
theorem ea120:Str.ofString "pair" = a105:=W.Fast.ofString_ofList ['p','a','i','r']
theorem ea121:Str.ofString "items" = a109:=W.Fast.ofString_ofList ['i','t','e','m','s']
theorem ea122:Str.ofString "bit" = a146:=W.Fast.ofString_ofList ['b','i','t']
theorem ea123:Str.ofString "byte" = a92:=W.Fast.ofString_ofList ['b','y','t','e']
theorem ea124:Str.ofString "n" = a165:=W.Fast.ofString_ofList ['n']
theorem ea125:Str.ofString "rest" = a166:=W.Fast.ofString_ofList ['r','e','s','t']
theorem ea126:Str.ofString "text" = a24:=W.Fast.ofString_ofList ['t','e','x','t']
theorem ea127:Str.ofString "s" = a122:=W.Fast.ofString_ofList ['s']
theorem ea128:Str.ofString "_wall" = a26:=W.Fast.ofString_ofList ['_','w','a','l','l']
theorem ea129:Str.ofString "numbers" = a31:=W.Fast.ofString_ofList ['n','u','m','b','e','r','s']
theorem ea130:Str.ofString "row" = a89:=W.Fast.ofString_ofList ['r','o','w']
theorem ea131:Str.ofString "what" = a163:=W.Fast.ofString_ofList ['w','h','a','t']
theorem ea132:Str.ofString "done" = a94:=W.Fast.ofString_ofList ['d','o','n','e']
theorem ea133:Str.ofString "cut_off" = a96:=W.Fast.ofString_ofList ['c','u','t','_','o','f','f']
theorem ea134:Str.ofString "bad_byte" = a98:=W.Fast.ofString_ofList ['b','a','d','_','b','y','t','e']
theorem ea135:Str.ofString "weight" = a169:=W.Fast.ofString_ofList ['w','e','i','g','h','t']
theorem ea136:Str.ofString "group" = a170:=W.Fast.ofString_ofList ['g','r','o','u','p']
theorem ea137:Str.ofString "long_number" = a172:=W.Fast.ofString_ofList ['l','o','n','g','_','n','u','m','b','e','r']
theorem ea138:Str.ofString "bad_count" = a173:=W.Fast.ofString_ofList ['b','a','d','_','c','o','u','n','t']
theorem ea139:Str.ofString "moduleyard.prefix" = a100:=W.Fast.ofString_ofList ['m','o','d','u','l','e','y','a','r','d','.','p','r','e','f','i','x']
theorem ea140:Str.ofString "held" = a88:=W.Fast.ofString_ofList ['h','e','l','d']
theorem ea141:Str.ofString "bad_filling" = a175:=W.Fast.ofString_ofList ['b','a','d','_','f','i','l','l','i','n','g']
theorem ea142:Str.ofString "left_over" = a176:=W.Fast.ofString_ofList ['l','e','f','t','_','o','v','e','r']
theorem ea143:Str.ofString "k" = a161:=W.Fast.ofString_ofList ['k']
theorem ea144:Str.ofString "moduleyard.errors" = a11:=W.Fast.ofString_ofList ['m','o','d','u','l','e','y','a','r','d','.','e','r','r','o','r','s']
theorem ea145:Str.ofString "YardError" = a76:=W.Fast.ofString_ofList ['Y','a','r','d','E','r','r','o','r']
theorem ea146:Str.ofString "Exception" = a189:=W.Fast.ofString_ofList ['E','x','c','e','p','t','i','o','n']
theorem ea147:Str.ofString "moduleyard.bytesio" = a27:=W.Fast.ofString_ofList ['m','o','d','u','l','e','y','a','r','d','.','b','y','t','e','s','i','o']
theorem ea148:Str.ofString "/claim/cut.py" = a1:=W.Fast.ofString_ofList ['/','c','l','a','i','m','/','c','u','t','.','p','y']
noncomputable def PT:Program:=PF a68 a57 a135 a179 a180 a182 a65 a181 a136 a154 a155 a156 a157 a54 a158 a56 a51 a16 a120 a60 a6 a38 a45 a46 a18 a47 a48 a49 a50 a52 a41 a53 a55 a137 a183 a42 a131 a184 a185 a134 a127 a39 a186 a187 a17 a142 a129 a19 a20 a123 a21 a80 a22 a23 a77 a117 a7 a66 a133 a9 a8 a3 a110 a111 a108 a103 a104 a30 a112 a102 a35 a113 a95 a107 a116 a28 a34 a36 a37 a40 a78 a83 a87 a128 a79 a97 a86 a148 a84 a139 a0 a140 a130 a141 a59 a143 a91 a124 a150 a132 a29 a125 a118 a119 a58 a151 a85 a64 a178 a61 a63 a62 a81 a149 a153 a82 a90 a145 a13 a5 a105 a109 a146 a92 a165 a166 a24 a122 a26 a31 a89 a163 a94 a96 a98 a169 a170 a172 a173 a100 a88 a175 a176 a161 a11 a76 a189 a27 a1
theorem tePP:PP=PT:=PX.2.symm.trans (congr (congr (congr (congr (congr (congr (congr (congr (congr (congr (congr (congr (congr (congr (congr (congr (congr (congr (congr (congr (congr (congr (congr (congr (congr (congr (congr (congr (congr (congr (congr (congr (congr (congr (congr (congr (congr (congr (congr (congr (congr (congr (congr (congr (congr (congr (congr (congr (congr (congr (congr (congr (congr (congr (congr (congr (congr (congr (congr (congr (congr (congr (congr (congr (congr (congr (congr (congr (congr (congr (congr (congr (congr (congr (congr (congr (congr (congr (congr (congr (congr (congr (congr (congr (congr (congr (congr (congr (congr (congr (congr (congr (congr (congr (congr (congr (congr (congr (congr (congr (congr (congr (congr (congr (congr (congr (congr (congr (congr (congr (congr (congr (congr (congr (congr (congr (congr (congr (congr (congr (congr (congr (congr (congr (congr (congr (congr (congr (congr (congr (congr (congr (congr (congr (congr (congr (congr (congr (congr (congr (congr (congr (congr (congr (congr (congr (congr (congr (congrArg PF ea0) ea1) ea2) ea3) ea4) ea5) ea6) ea7) ea8) ea9) ea10) ea11) ea12) ea13) ea14) ea15) ea16) ea17) ea18) ea19) ea20) ea21) ea22) ea23) ea24) ea25) ea26) ea27) ea28) ea29) ea30) ea31) ea32) ea33) ea34) ea35) ea36) ea37) ea38) ea39) ea40) ea41) ea42) ea43) ea44) ea45) ea46) ea47) ea48) ea49) ea50) ea51) ea52) ea53) ea54) ea55) ea56) ea57) ea58) ea59) ea60) ea61) ea62) ea63) ea64) ea65) ea66) ea67) ea68) ea69) ea70) ea71) ea72) ea73) ea74) ea75) ea76) ea77) ea78) ea79) ea80) ea81) ea82) ea83) ea84) ea85) ea86) ea87) ea88) ea89) ea90) ea91) ea92) ea93) ea94) ea95) ea96) ea97) ea98) ea99) ea100) ea101) ea102) ea103) ea104) ea105) ea106) ea107) ea108) ea109) ea110) ea111) ea112) ea113) ea114) ea115) ea116) ea117) ea118) ea119) ea120) ea121) ea122) ea123) ea124) ea125) ea126) ea127) ea128) ea129) ea130) ea131) ea132) ea133) ea134) ea135) ea136) ea137) ea138) ea139) ea140) ea141) ea142) ea143) ea144) ea145) ea146) ea147) ea148)
noncomputable def fnA (i j:Nat):Option Stmt:=match PT.main.body[i]? with
 | some (.ClassDef _ _ _ b _ _ _ _ _ _ _)=>b[j]?
 | s=>s
noncomputable def bdA (i j:Nat):List Stmt:=match fnA i j with
 | some (.FunctionDef _ _ b _ _ _ _ _ _ _)=>b
 | _=>[]
noncomputable def ag (a:Str) (p:Pos):Arg:=⟨a,none,p⟩
noncomputable def mP (l:List Arg) (d:List Expr):Arguments:=⟨[],l,none,[],[],none,d⟩
noncomputable def sF (l:List (Str×NameKind)):Scope:={ kind:=.function,names:=l,isGenerator:=false,isCoroutine:=false }
noncomputable def mF (n q:Str) (p:Arguments) (b:List Stmt) (s:Scope):FuncData:={ name:=n,qualname:=q,params:=p,body:=.stmts b,scope:=s,globals:=0,closure:=[],defaults:=.none,kwdefaults:=.none }
noncomputable def fd0:FuncData:=mF a26 a26 (mP [ag a161 ⟨1,10,1,11⟩] []) (bdA 0 999) (sF [(a161,.local)])
noncomputable def fd1:FuncData:={ fd0 with name:=a26,qualname:=a26,scope:=sF [(a161,.local)],globals:=3,pyModule:=.str a162 164,code:=.ref 20 }
noncomputable def fd2:FuncData:=mF a13 a164 (mP [ag a5 ⟨9,17,9,21⟩,ag a163 ⟨9,23,9,27⟩,ag a97 ⟨9,29,9,31⟩] []) (bdA 3 0) (sF [(a5,.local),(a163,.local),(a97,.local)])
noncomputable def fd3:FuncData:={ fd2 with name:=a13,qualname:=a164,scope:=sF [(a5,.local),(a163,.local),(a97,.local)],globals:=3,pyModule:=.str a11 194,code:=.ref 47 }
noncomputable def fd4:FuncData:=mF a13 a114 (mP [ag a5 ⟨15,17,15,21⟩] []) (bdA 5 0) (sF [(a5,.local)])
noncomputable def fd5:FuncData:={ fd4 with name:=a13,qualname:=a114,scope:=sF [(a5,.local)],globals:=3,pyModule:=.str a27 243,code:=.ref 66 }
noncomputable def fd6:FuncData:=mF a92 a144 (mP [ag a5 ⟨18,13,18,17⟩,ag a29 ⟨18,19,18,24⟩] []) (bdA 5 1) (sF [(a5,.local),(a29,.local)])
noncomputable def fd7:FuncData:={ fd6 with name:=a92,qualname:=a144,scope:=sF [(a5,.local),(a29,.local)],globals:=3,pyModule:=.str a27 243,code:=.ref 73 }
noncomputable def fd8:FuncData:=mF a102 a167 (mP [ag a5 ⟨21,15,21,19⟩,ag a165 ⟨21,21,21,22⟩] []) (bdA 5 2) (sF [(a5,.local),(a165,.local),(a166,.local)])
noncomputable def fd9:FuncData:={ fd8 with name:=a102,qualname:=a167,scope:=sF [(a5,.local),(a165,.local),(a166,.local)],globals:=3,pyModule:=.str a27 243,code:=.ref 80 }
noncomputable def fd10:FuncData:=mF a24 a121 (mP [ag a5 ⟨28,13,28,17⟩,ag a122 ⟨28,19,28,20⟩] []) (bdA 5 3) (sF [(a5,.local),(a122,.local),(a26,.globalImplicit)])
noncomputable def fd11:FuncData:={ fd10 with name:=a24,qualname:=a121,scope:=sF [(a5,.local),(a122,.local),(a26,.globalImplicit)],globals:=3,pyModule:=.str a27 243,code:=.ref 87 }
noncomputable def fd12:FuncData:=mF a31 a126 (mP [ag a5 ⟨31,16,31,20⟩,ag a89 ⟨31,22,31,25⟩] []) (bdA 5 4) (sF [(a5,.local),(a89,.local),(a26,.globalImplicit)])
noncomputable def fd13:FuncData:={ fd12 with name:=a31,qualname:=a126,scope:=sF [(a5,.local),(a89,.local),(a26,.globalImplicit)],globals:=3,pyModule:=.str a27 243,code:=.ref 94 }
noncomputable def fd14:FuncData:=mF a13 a152 (mP [ag a5 ⟨35,17,35,21⟩,ag a16 ⟨35,23,35,27⟩] []) (bdA 6 0) (sF [(a5,.local),(a16,.local)])
noncomputable def fd15:FuncData:={ fd14 with name:=a13,qualname:=a152,scope:=sF [(a5,.local),(a16,.local)],globals:=3,pyModule:=.str a27 243,code:=.ref 115 }
noncomputable def fd16:FuncData:=mF a95 a168 (mP [ag a5 ⟨39,13,39,17⟩,ag a163 ⟨39,19,39,23⟩] []) (bdA 6 1) (sF [(a5,.local),(a163,.local),(a39,.globalImplicit)])
noncomputable def fd17:FuncData:={ fd16 with name:=a95,qualname:=a168,scope:=sF [(a5,.local),(a163,.local),(a39,.globalImplicit)],globals:=3,pyModule:=.str a27 243,code:=.ref 122 }
noncomputable def fd18:FuncData:=mF a94 a160 (mP [ag a5 ⟨42,13,42,17⟩] []) (bdA 6 2) (sF [(a5,.local),(a38,.globalImplicit)])
noncomputable def fd19:FuncData:={ fd18 with name:=a94,qualname:=a160,scope:=sF [(a5,.local),(a38,.globalImplicit)],globals:=3,pyModule:=.str a27 243,code:=.ref 129 }
noncomputable def fd20:FuncData:=mF a92 a93 (mP [ag a5 ⟨45,13,45,17⟩] []) (bdA 6 3) (sF [(a5,.local),(a29,.local)])
noncomputable def fd21:FuncData:={ fd20 with name:=a92,qualname:=a93,scope:=sF [(a5,.local),(a29,.local)],globals:=3,pyModule:=.str a27 243,code:=.ref 136 }
noncomputable def fd22:FuncData:=mF a102 a171 (mP [ag a5 ⟨54,15,54,19⟩] []) (bdA 6 4) (sF [(a5,.local),(a145,.local),(a169,.local),(a170,.local)])
noncomputable def fd23:FuncData:={ fd22 with name:=a102,qualname:=a171,scope:=sF [(a5,.local),(a145,.local),(a169,.local),(a170,.local)],globals:=3,pyModule:=.str a27 243,code:=.ref 143 }
noncomputable def fd24:FuncData:=mF a6 a159 (mP [ag a5 ⟨69,14,69,18⟩] []) (bdA 6 5) (sF [(a5,.local),(a165,.local),(a38,.globalImplicit)])
noncomputable def fd25:FuncData:={ fd24 with name:=a6,qualname:=a159,scope:=sF [(a5,.local),(a165,.local),(a38,.globalImplicit)],globals:=3,pyModule:=.str a27 243,code:=.ref 150 }
noncomputable def fd26:FuncData:=mF a24 a25 (mP [ag a5 ⟨75,13,75,17⟩] []) (bdA 6 6) (sF [(a5,.local),(a26,.globalImplicit)])
noncomputable def fd27:FuncData:={ fd26 with name:=a24,qualname:=a25,scope:=sF [(a5,.local),(a26,.globalImplicit)],globals:=3,pyModule:=.str a27 243,code:=.ref 157 }
noncomputable def fd28:FuncData:=mF a31 a32 (mP [ag a5 ⟨78,16,78,20⟩] []) (bdA 6 7) (sF [(a5,.local),(a26,.globalImplicit)])
noncomputable def fd29:FuncData:={ fd28 with name:=a31,qualname:=a32,scope:=sF [(a5,.local),(a26,.globalImplicit)],globals:=3,pyModule:=.str a27 243,code:=.ref 164 }
noncomputable def fd30:FuncData:=mF a13 a99 (mP [ag a5 ⟨83,17,83,21⟩] []) (bdA 8 0) (sF [(a5,.local)])
noncomputable def fd31:FuncData:={ fd30 with name:=a13,qualname:=a99,scope:=sF [(a5,.local)],globals:=3,pyModule:=.str a100 391,code:=.ref 185 }
noncomputable def fd32:FuncData:=mF a7 a115 (mP [ag a5 ⟨88,13,88,17⟩,ag a29 ⟨88,19,88,24⟩,ag a28 ⟨88,26,88,31⟩] []) (bdA 8 1) (sF [(a5,.local),(a29,.local),(a28,.local),(a59,.local),(a41,.globalImplicit)])
noncomputable def fd33:FuncData:={ fd32 with name:=a7,qualname:=a115,scope:=sF [(a5,.local),(a29,.local),(a28,.local),(a59,.local),(a41,.globalImplicit)],globals:=3,pyModule:=.str a100 391,code:=.ref 192 }
noncomputable def fd34:FuncData:=mF a3 a4 (mP [ag a5 ⟨97,15,97,19⟩] []) (bdA 8 2) (sF [(a5,.local)])
noncomputable def fd35:FuncData:={ fd34 with name:=a3,qualname:=a4,scope:=sF [(a5,.local)],globals:=3,pyModule:=.str a100 391,code:=.ref 199 }
noncomputable def fd36:FuncData:=mF a13 a138 (mP [ag a5 ⟨103,17,103,21⟩,ag a16 ⟨103,23,103,27⟩,ag a97 ⟨103,29,103,31⟩] []) (bdA 9 0) (sF [(a5,.local),(a16,.local),(a97,.local)])
noncomputable def fd37:FuncData:={ fd36 with name:=a13,qualname:=a138,scope:=sF [(a5,.local),(a16,.local),(a97,.local)],globals:=3,pyModule:=.str a100 391,code:=.ref 220 }
noncomputable def fd38:FuncData:=mF a146 a147 (mP [ag a5 ⟨108,12,108,16⟩] []) (bdA 9 1) (sF [(a5,.local),(a29,.local),(a90,.local),(a38,.globalImplicit),(a39,.globalImplicit)])
noncomputable def fd39:FuncData:={ fd38 with name:=a146,qualname:=a147,scope:=sF [(a5,.local),(a29,.local),(a90,.local),(a38,.globalImplicit),(a39,.globalImplicit)],globals:=3,pyModule:=.str a100 391,code:=.ref 227 }
noncomputable def fd40:FuncData:=mF a7 a174 (mP [ag a5 ⟨121,13,121,17⟩,ag a28 ⟨121,19,121,24⟩] []) (bdA 9 2) (sF [(a5,.local),(a28,.local),(a29,.local),(a30,.local),(a41,.globalImplicit)])
noncomputable def fd41:FuncData:={ fd40 with name:=a7,qualname:=a174,scope:=sF [(a5,.local),(a28,.local),(a29,.local),(a30,.local),(a41,.globalImplicit)],globals:=3,pyModule:=.str a100 391,code:=.ref 234 }
noncomputable def fd42:FuncData:=mF a3 a67 (mP [ag a5 ⟨127,15,127,19⟩] []) (bdA 9 3) (sF [(a5,.local),(a39,.globalImplicit),(a38,.globalImplicit)])
noncomputable def fd43:FuncData:={ fd42 with name:=a3,qualname:=a67,scope:=sF [(a5,.local),(a39,.globalImplicit),(a38,.globalImplicit)],globals:=3,pyModule:=.str a100 391,code:=.ref 241 }
noncomputable def fd44:FuncData:=mF a62 a62 (mP [ag a63 ⟨133,13,133,18⟩] []) (bdA 10 999) (sF [(a63,.local),(a64,.local),(a59,.local),(a41,.globalImplicit),(a38,.globalImplicit)])
noncomputable def fd45:FuncData:={ fd44 with name:=a62,qualname:=a62,scope:=sF [(a63,.local),(a64,.local),(a59,.local),(a41,.globalImplicit),(a38,.globalImplicit)],globals:=3,pyModule:=.str a100 391,code:=.ref 255 }
noncomputable def fd46:FuncData:=mF a80 a80 (mP [ag a19 ⟨139,17,139,23⟩] []) (bdA 11 999) (sF [(a19,.local),(a103,.local),(a63,.local),(a104,.local),(a48,.local),(a49,.local),(a38,.globalImplicit),(a41,.globalImplicit),(a62,.globalImplicit)])
noncomputable def fd47:FuncData:={ fd46 with name:=a80,qualname:=a80,scope:=sF [(a19,.local),(a103,.local),(a63,.local),(a104,.local),(a48,.local),(a49,.local),(a38,.globalImplicit),(a41,.globalImplicit),(a62,.globalImplicit)],globals:=3,pyModule:=.str a100 391,code:=.ref 262 }
noncomputable def fd48:FuncData:=mF a81 a81 (mP [ag a103 ⟨154,20,154,27⟩] []) (bdA 12 999) { kind:=.function,names:=[(a103,.cell),(a149,.globalImplicit),(a41,.globalImplicit),(a38,.globalImplicit)],isGenerator:=false,isCoroutine:=false,more:=[(a56,.str a103),(a56,.str a104)] }
noncomputable def fd49:FuncData:={ fd48 with name:=a81,qualname:=a81,scope:={ kind:=.function,names:=[(a103,.cell),(a149,.globalImplicit),(a41,.globalImplicit),(a38,.globalImplicit)],isGenerator:=false,isCoroutine:=false,more:=[(a56,.str a103),(a56,.str a104)] },globals:=3,pyModule:=.str a100 391,code:=.ref 267 }
noncomputable def fd50:FuncData:=mF a9 a9 (mP [ag a103 ⟨156,13,156,20⟩] []) (bdA 13 999) (sF [(a103,.local),(a153,.local),(a125,.local),(a119,.local),(a35,.local),(a104,.local),(a81,.globalImplicit)])
noncomputable def fd51:FuncData:={ fd50 with name:=a9,qualname:=a9,scope:=sF [(a103,.local),(a153,.local),(a125,.local),(a119,.local),(a35,.local),(a104,.local),(a81,.globalImplicit)],globals:=3,pyModule:=.str a100 391,code:=.ref 274 }
noncomputable def fd52:FuncData:=mF a82 a82 (mP [ag a103 ⟨166,16,166,23⟩] []) (bdA 14 999) (sF [(a103,.local),(a90,.local),(a55,.local),(a145,.local),(a35,.local),(a104,.local),(a81,.globalImplicit),(a38,.globalImplicit)])
noncomputable def fd53:FuncData:={ fd52 with name:=a82,qualname:=a82,scope:=sF [(a103,.local),(a90,.local),(a55,.local),(a145,.local),(a35,.local),(a104,.local),(a81,.globalImplicit),(a38,.globalImplicit)],globals:=3,pyModule:=.str a100 391,code:=.ref 281 }
noncomputable def fd54:FuncData:=mF a13 a106 (mP [ag a5 ⟨177,17,177,21⟩,ag a103 ⟨177,23,177,30⟩] []) (bdA 15 0) (sF [(a5,.local),(a103,.local),(a104,.local),(a105,.local),(a82,.globalImplicit),(a39,.globalImplicit),(a9,.globalImplicit),(a53,.globalImplicit)])
noncomputable def fd55:FuncData:={ fd54 with name:=a13,qualname:=a106,scope:=sF [(a5,.local),(a103,.local),(a104,.local),(a105,.local),(a82,.globalImplicit),(a39,.globalImplicit),(a9,.globalImplicit),(a53,.globalImplicit)],globals:=3,pyModule:=.str a100 391,code:=.ref 295 }
noncomputable def fd56:FuncData:=mF a104 a177 (mP [ag a5 ⟨186,15,186,19⟩,ag a111 ⟨186,21,186,27⟩] []) (bdA 15 1) (sF [(a5,.local),(a111,.local),(a125,.local),(a35,.local),(a41,.globalImplicit),(a39,.globalImplicit)])
noncomputable def fd57:FuncData:={ fd56 with name:=a104,qualname:=a177,scope:=sF [(a5,.local),(a111,.local),(a125,.local),(a35,.local),(a41,.globalImplicit),(a39,.globalImplicit)],globals:=3,pyModule:=.str a100 391,code:=.ref 302 }
noncomputable def fd58:FuncData:=mF a58 a58 (mP [ag a16 ⟨201,13,201,17⟩,ag a59 ⟨201,19,201,24⟩,ag a60 ⟨201,26,201,31⟩,ag a37 ⟨201,33,201,37⟩] []) (bdA 24 999) (sF [(a16,.local),(a59,.local),(a60,.local),(a37,.local),(a6,.local)])
noncomputable def fd59:FuncData:={ fd58 with name:=a58,qualname:=a58,scope:=sF [(a16,.local),(a59,.local),(a60,.local),(a37,.local),(a6,.local)],globals:=3,pyModule:=.str a61 591,code:=.ref 316 }
noncomputable def fd60:FuncData:=mF a0 a0 (mP [ag a16 ⟨206,14,206,18⟩,ag a97 ⟨206,20,206,22⟩,ag a151 ⟨206,24,206,30⟩,ag a17 ⟨206,32,206,38⟩] []) (bdA 25 999) (sF [(a16,.local),(a97,.local),(a151,.local),(a17,.local),(a37,.local),(a64,.local),(a59,.local),(a35,.local),(a142,.globalImplicit),(a85,.globalImplicit),(a38,.globalImplicit),(a178,.globalImplicit),(a58,.globalImplicit)])
noncomputable def fd61:FuncData:={ fd60 with name:=a0,qualname:=a0,scope:=sF [(a16,.local),(a97,.local),(a151,.local),(a17,.local),(a37,.local),(a64,.local),(a59,.local),(a35,.local),(a142,.globalImplicit),(a85,.globalImplicit),(a38,.globalImplicit),(a178,.globalImplicit),(a58,.globalImplicit)],globals:=3,pyModule:=.str a61 591,code:=.ref 323 }
noncomputable def fd62:FuncData:=mF a130 a130 (mP [ag a16 ⟨216,11,216,15⟩,ag a97 ⟨216,17,216,19⟩] []) (bdA 26 999) (sF [(a16,.local),(a97,.local)])
noncomputable def fd63:FuncData:={ fd62 with name:=a130,qualname:=a130,scope:=sF [(a16,.local),(a97,.local)],globals:=3,pyModule:=.str a61 591,code:=.ref 330 }
noncomputable def fd64:FuncData:=mF a131 a131 (mP [ag a16 ⟨218,14,218,18⟩,ag a17 ⟨218,20,218,26⟩] []) (bdA 27 999) (sF [(a16,.local),(a17,.local),(a18,.local),(a139,.local),(a97,.local),(a35,.local),(a36,.local),(a141,.local),(a59,.local),(a38,.globalImplicit),(a84,.globalImplicit),(a0,.globalImplicit),(a130,.globalImplicit),(a53,.globalImplicit),(a41,.globalImplicit),(a142,.globalImplicit)])
noncomputable def fd65:FuncData:={ fd64 with name:=a131,qualname:=a131,scope:=sF [(a16,.local),(a17,.local),(a18,.local),(a139,.local),(a97,.local),(a35,.local),(a36,.local),(a141,.local),(a59,.local),(a38,.globalImplicit),(a84,.globalImplicit),(a0,.globalImplicit),(a130,.globalImplicit),(a53,.globalImplicit),(a41,.globalImplicit),(a142,.globalImplicit)],globals:=3,pyModule:=.str a61 591,code:=.ref 337 }
noncomputable def fd66:FuncData:=mF a91 a91 (mP [ag a124 ⟨233,16,233,21⟩] []) (bdA 28 999) (sF [(a124,.local),(a86,.globalImplicit),(a84,.globalImplicit)])
noncomputable def fd67:FuncData:={ fd66 with name:=a91,qualname:=a91,scope:=sF [(a124,.local),(a86,.globalImplicit),(a84,.globalImplicit)],globals:=3,pyModule:=.str a61 591,code:=.ref 344 }
noncomputable def fd68:FuncData:=mF a123 a123 (mP [ag a18 ⟨237,18,237,24⟩] []) (bdA 29 999) (sF [(a18,.local),(a21,.local),(a22,.local),(a124,.local),(a87,.globalImplicit),(a128,.globalImplicit),(a91,.globalImplicit),(a86,.globalImplicit)])
noncomputable def fd69:FuncData:={ fd68 with name:=a123,qualname:=a123,scope:=sF [(a18,.local),(a21,.local),(a22,.local),(a124,.local),(a87,.globalImplicit),(a128,.globalImplicit),(a91,.globalImplicit),(a86,.globalImplicit)],globals:=3,pyModule:=.str a61 591,code:=.ref 351 }
noncomputable def fd70:FuncData:=mF a132 a132 (mP [ag a7 ⟨246,15,246,19⟩,ag a29 ⟨246,21,246,26⟩] []) (bdA 30 999) (sF [(a7,.local),(a29,.local)])
noncomputable def fd71:FuncData:={ fd70 with name:=a132,qualname:=a132,scope:=sF [(a7,.local),(a29,.local)],globals:=3,pyModule:=.str a61 591,code:=.ref 358 }
noncomputable def fd72:FuncData:=mF a133 a133 (mP [ag a7 ⟨248,17,248,21⟩,ag a18 ⟨248,23,248,29⟩,ag a21 ⟨248,31,248,35⟩,ag a22 ⟨248,37,248,46⟩] []) (bdA 31 999) (sF [(a7,.local),(a18,.local),(a21,.local),(a22,.local),(a124,.local),(a125,.local),(a35,.local),(a91,.globalImplicit),(a132,.globalImplicit),(a84,.globalImplicit),(a86,.globalImplicit)])
noncomputable def fd73:FuncData:={ fd72 with name:=a133,qualname:=a133,scope:=sF [(a7,.local),(a18,.local),(a21,.local),(a22,.local),(a124,.local),(a125,.local),(a35,.local),(a91,.globalImplicit),(a132,.globalImplicit),(a84,.globalImplicit),(a86,.globalImplicit)],globals:=3,pyModule:=.str a61 591,code:=.ref 365 }
noncomputable def fd74:FuncData:=mF a117 a117 (mP [ag a23 ⟨259,18,259,24⟩,ag a103 ⟨259,26,259,33⟩] []) (bdA 32 999) { kind:=.function,names:=[(a23,.local),(a103,.cell),(a104,.local),(a118,.local),(a119,.local),(a41,.globalImplicit),(a38,.globalImplicit)],isGenerator:=false,isCoroutine:=false,more:=[(a56,.str a23),(a56,.str a103),(a56,.str a104),(a56,.str a118),(a56,.str a119)] }
noncomputable def fd75:FuncData:={ fd74 with name:=a117,qualname:=a117,scope:={ kind:=.function,names:=[(a23,.local),(a103,.cell),(a104,.local),(a118,.local),(a119,.local),(a41,.globalImplicit),(a38,.globalImplicit)],isGenerator:=false,isCoroutine:=false,more:=[(a56,.str a23),(a56,.str a103),(a56,.str a104),(a56,.str a118),(a56,.str a119)] },globals:=3,pyModule:=.str a61 591,code:=.ref 370 }
noncomputable def fd76:FuncData:=mF a134 a134 (mP [ag a16 ⟨267,12,267,16⟩,ag a17 ⟨267,18,267,24⟩] [.Constant (.int 4096) 0 ⟨267,25,267,29⟩]) (bdA 33 999) (sF [(a16,.local),(a17,.local),(a18,.local),(a19,.local),(a20,.local),(a21,.local),(a22,.local),(a23,.local),(a7,.local),(a131,.globalImplicit),(a53,.globalImplicit),(a142,.globalImplicit),(a129,.globalImplicit),(a123,.globalImplicit),(a80,.globalImplicit),(a77,.globalImplicit),(a117,.globalImplicit),(a66,.globalImplicit),(a133,.globalImplicit),(a9,.globalImplicit)])
noncomputable def fd77:FuncData:={ fd76 with name:=a134,qualname:=a134,scope:=sF [(a16,.local),(a17,.local),(a18,.local),(a19,.local),(a20,.local),(a21,.local),(a22,.local),(a23,.local),(a7,.local),(a131,.globalImplicit),(a53,.globalImplicit),(a142,.globalImplicit),(a129,.globalImplicit),(a123,.globalImplicit),(a80,.globalImplicit),(a77,.globalImplicit),(a117,.globalImplicit),(a66,.globalImplicit),(a133,.globalImplicit),(a9,.globalImplicit)],globals:=3,defaults:=.ref 372,pyModule:=.str a61 591,code:=.ref 378 }
noncomputable def fd78:FuncData:=mF a110 a110 (mP [ag a111 ⟨278,17,278,23⟩,ag a108 ⟨278,25,278,32⟩] []) (bdA 34 999) (sF [(a111,.local),(a108,.local),(a103,.local),(a104,.local),(a30,.local),(a112,.local),(a35,.local),(a41,.globalImplicit),(a113,.globalImplicit)])
noncomputable def fd79:FuncData:={ fd78 with name:=a110,qualname:=a110,scope:=sF [(a111,.local),(a108,.local),(a103,.local),(a104,.local),(a30,.local),(a112,.local),(a35,.local),(a41,.globalImplicit),(a113,.globalImplicit)],globals:=3,pyModule:=.str a61 591,code:=.ref 385 }
noncomputable def fd80:FuncData:=mF a116 a116 (mP [ag a7 ⟨289,14,289,18⟩,ag a28 ⟨289,20,289,25⟩] []) (bdA 35 999) (sF [(a7,.local),(a28,.local)])
noncomputable def fd81:FuncData:={ fd80 with name:=a116,qualname:=a116,scope:=sF [(a7,.local),(a28,.local)],globals:=3,pyModule:=.str a61 591,code:=.ref 392 }
noncomputable def fd82:FuncData:=mF a34 a34 (mP [ag a8 ⟨291,14,291,17⟩,ag a35 ⟨291,19,291,25⟩,ag a36 ⟨291,27,291,35⟩,ag a37 ⟨291,37,291,41⟩] []) (bdA 36 999) (sF [(a8,.local),(a35,.local),(a36,.local),(a37,.local),(a30,.local),(a38,.globalImplicit),(a39,.globalImplicit),(a41,.globalImplicit)])
noncomputable def fd83:FuncData:={ fd82 with name:=a34,qualname:=a34,scope:=sF [(a8,.local),(a35,.local),(a36,.local),(a37,.local),(a30,.local),(a38,.globalImplicit),(a39,.globalImplicit),(a41,.globalImplicit)],globals:=3,pyModule:=.str a61 591,code:=.ref 399 }
noncomputable def fd84:FuncData:=mF a127 a127 (mP [ag a16 ⟨296,14,296,18⟩,ag a37 ⟨296,20,296,24⟩] [.Constant (.int 65536) 0 ⟨296,25,296,30⟩]) (bdA 37 999) (sF [(a16,.local),(a37,.local),(a111,.local),(a21,.local),(a103,.local),(a22,.local),(a7,.local),(a8,.local),(a104,.local),(a35,.local),(a28,.local),(a78,.globalImplicit),(a83,.globalImplicit),(a110,.globalImplicit),(a87,.globalImplicit),(a128,.globalImplicit),(a53,.globalImplicit),(a79,.globalImplicit),(a86,.globalImplicit),(a38,.globalImplicit),(a39,.globalImplicit),(a116,.globalImplicit),(a84,.globalImplicit),(a34,.globalImplicit)])
noncomputable def fd85:FuncData:={ fd84 with name:=a127,qualname:=a127,scope:=sF [(a16,.local),(a37,.local),(a111,.local),(a21,.local),(a103,.local),(a22,.local),(a7,.local),(a8,.local),(a104,.local),(a35,.local),(a28,.local),(a78,.globalImplicit),(a83,.globalImplicit),(a110,.globalImplicit),(a87,.globalImplicit),(a128,.globalImplicit),(a53,.globalImplicit),(a79,.globalImplicit),(a86,.globalImplicit),(a38,.globalImplicit),(a39,.globalImplicit),(a116,.globalImplicit),(a84,.globalImplicit),(a34,.globalImplicit)],globals:=3,defaults:=.ref 401,pyModule:=.str a61 591,code:=.ref 407 }
noncomputable def fd86:FuncData:=mF a135 a135 (mP [ag a179 ⟨321,14,321,18⟩,ag a180 ⟨321,20,321,25⟩] []) (bdA 39 999) (sF [(a179,.local),(a180,.local),(a181,.local),(a182,.globalImplicit)])
noncomputable def fd87:FuncData:={ fd86 with name:=a135,qualname:=a135,scope:=sF [(a179,.local),(a180,.local),(a181,.local),(a182,.globalImplicit)],globals:=3,pyModule:=.str a57 765,code:=.ref 414 }
noncomputable def fd88:FuncData:=mF a136 a136 (mP [ag a154 ⟨330,14,330,20⟩] []) (bdA 40 999) { kind:=.function,names:=[(a154,.local),(a155,.local),(a158,.globalImplicit)],isGenerator:=false,isCoroutine:=false,more:=[(a56,.str a154),(a56,.str a157),(a56,.str a155)] }
noncomputable def fd89:FuncData:={ fd88 with name:=a136,qualname:=a136,scope:={ kind:=.function,names:=[(a154,.local),(a155,.local),(a158,.globalImplicit)],isGenerator:=false,isCoroutine:=false,more:=[(a56,.str a154),(a56,.str a157),(a56,.str a155)] },globals:=3,pyModule:=.str a57 765,code:=.ref 419 }
noncomputable def fd90:FuncData:=mF a51 a51 (mP [ag a16 ⟨333,14,333,18⟩,ag a120 ⟨333,20,333,23⟩,ag a60 ⟨333,25,333,30⟩] []) (bdA 41 999) (sF [(a16,.local),(a120,.local),(a60,.local),(a6,.local),(a38,.globalImplicit)])
noncomputable def fd91:FuncData:={ fd90 with name:=a51,qualname:=a51,scope:=sF [(a16,.local),(a120,.local),(a60,.local),(a6,.local),(a38,.globalImplicit)],globals:=3,pyModule:=.str a57 765,code:=.ref 426 }
noncomputable def fd92:FuncData:=mF a45 a45 (mP [ag a16 ⟨338,21,338,25⟩,ag a46 ⟨338,27,338,37⟩,ag a18 ⟨338,39,338,45⟩] []) (bdA 42 999) { kind:=.function,names:=[(a16,.cell),(a46,.local),(a18,.local),(a47,.cell),(a48,.local),(a49,.local),(a50,.local),(a55,.cell),(a38,.globalImplicit),(a41,.globalImplicit),(a53,.globalImplicit)],isGenerator:=false,isCoroutine:=false,more:=[(a56,.str a16),(a56,.str a46),(a56,.str a18),(a56,.str a47),(a56,.str a48),(a56,.str a49),(a56,.str a52),(a56,.str a50),(a56,.str a6),(a56,.str a55)] }
noncomputable def fd93:FuncData:={ fd92 with name:=a45,qualname:=a45,scope:={ kind:=.function,names:=[(a16,.cell),(a46,.local),(a18,.local),(a47,.cell),(a48,.local),(a49,.local),(a50,.local),(a55,.cell),(a38,.globalImplicit),(a41,.globalImplicit),(a53,.globalImplicit)],isGenerator:=false,isCoroutine:=false,more:=[(a56,.str a16),(a56,.str a46),(a56,.str a18),(a56,.str a47),(a56,.str a48),(a56,.str a49),(a56,.str a52),(a56,.str a50),(a56,.str a6),(a56,.str a55)] },globals:=3,pyModule:=.str a57 765,code:=.ref 431 }
noncomputable def fd94:FuncData:=mF a137 a137 (mP [ag a154 ⟨354,8,354,14⟩] []) (bdA 43 999) { kind:=.function,names:=[(a154,.local),(a179,.cell),(a16,.local),(a183,.local),(a52,.local),(a46,.local),(a185,.local),(a186,.local),(a187,.local),(a136,.globalImplicit),(a41,.globalImplicit),(a135,.globalImplicit),(a38,.globalImplicit),(a45,.globalImplicit),(a131,.globalImplicit),(a184,.globalImplicit),(a134,.globalImplicit),(a127,.globalImplicit),(a39,.globalImplicit)],isGenerator:=false,isCoroutine:=false,more:=[(a56,.str a154),(a56,.str a179),(a56,.str a16),(a56,.str a183),(a56,.str a52),(a56,.str a46),(a56,.str a185),(a56,.str a120),(a56,.str a186),(a56,.str a187)] }
noncomputable def fd95:FuncData:={ fd94 with name:=a137,qualname:=a137,scope:={ kind:=.function,names:=[(a154,.local),(a179,.cell),(a16,.local),(a183,.local),(a52,.local),(a46,.local),(a185,.local),(a186,.local),(a187,.local),(a136,.globalImplicit),(a41,.globalImplicit),(a135,.globalImplicit),(a38,.globalImplicit),(a45,.globalImplicit),(a131,.globalImplicit),(a184,.globalImplicit),(a134,.globalImplicit),(a127,.globalImplicit),(a39,.globalImplicit)],isGenerator:=false,isCoroutine:=false,more:=[(a56,.str a154),(a56,.str a179),(a56,.str a16),(a56,.str a183),(a56,.str a52),(a56,.str a46),(a56,.str a185),(a56,.str a120),(a56,.str a186),(a56,.str a187)] },globals:=3,pyModule:=.str a57 765,code:=.ref 436 }
noncomputable def o_43:Params→Obj:=fun P=>{ cls:=.type SL.s2766695959194262286x5,data:=.seq #[] }
noncomputable def o_44:Params→Obj:=fun P=>{ cls:=.none,data:=.fields #[] }
noncomputable def o_45:Params→Obj:=fun P=>{ cls:=.type SL.s5856160107412720595x4,data:=.fields #[.str a188 182,.str a188 183,.str a1 184,.int 1 0,.int 0 0,.int 0 0,.int 0 0,.int 0 0,.ref 11,.bool false,.int 181 0,.ref 12,.none,.none,.none,.none,.int 185 0,.int 1 0,.str a1 186] }
noncomputable def o_46:Params→Obj:=fun P=>{ cls:=.type SL.s658472552662922059x5,slots:=#[some (.ref 13),some (.ref 3),some (.ref 3),none,some (.str a162 164),none,some (.ref 0)] }
noncomputable def o_49:Params→Obj:=fun P=>{ cls:=.none,data:=Data.dict #[{ hash:=PyData.keyHash P a43,key:=.str a43 212,val:=.int 31 0 },{ hash:=PyData.keyHash P a44,key:=.str a44 213,val:=.int 1 0 }] 2 }
noncomputable def o_52:Params→Obj:=fun P=>{ cls:=.type SL.s2766695959194262286x5,data:=.seq #[] }
noncomputable def o_53:Params→Obj:=fun P=>{ cls:=.none,data:=.fields #[] }
noncomputable def o_54:Params→Obj:=fun P=>{ cls:=.type SL.s2766695959194262286x5,data:=.seq #[.str a161 190] }
noncomputable def o_55:Params→Obj:=fun P=>{ cls:=.type SL.s2766695959194262286x5,data:=.seq #[] }
noncomputable def o_56:Params→Obj:=fun P=>{ cls:=.none,data:=.func fd0 }
noncomputable def o_57:Params→Obj:=fun P=>{ cls:=.type SL.s5856160107412720595x4,data:=.fields #[.str a26 187,.str a26 188,.str a1 189,.int 1 0,.int 1 0,.int 0 0,.int 0 0,.int 3 0,.ref 15,.bool true,.int 181 0,.ref 16,.none,.ref 17,.ref 18,.ref 19,.int 191 0,.int 1 0,.str a1 192] }
noncomputable def o_58:Params→Obj:=fun P=>{ cls:=.type SL.s7174869446012820540x8,data:=.func fd1 }
noncomputable def o_59:Params→Obj:=fun P=>{ cls:=.type SL.s2766695959194262286x5,data:=.seq #[.type SL.s5946037652744460706x9] }
noncomputable def o_60:Params→Obj:=fun P=>{ cls:=.type SL.s11030030927630378310x26,data:=.fields #[.builtin SL.s10062305145149207511x16,.type SL.s17162191345867700912x4] }
noncomputable def o_61:Params→Obj:=fun P=>{ cls:=.type SL.s14018661285674007319x4,data:=Data.dict #[{ hash:=PyData.keyHash P a10,key:=.str a10 203,val:=.str a11 194 },{ hash:=PyData.keyHash P a101,key:=.str a101 205,val:=.str a76 204 },{ hash:=PyData.keyHash P a12,key:=.str a12 207,val:=.int 5 206 },{ hash:=PyData.keyHash P a14,key:=.str a14 208,val:=.ref 29 }] 4 }
noncomputable def o_62:Params→Obj:=fun P=>{ cls:=.type SL.s2766695959194262286x5,data:=.seq #[] }
noncomputable def o_63:Params→Obj:=fun P=>{ cls:=.none,data:=.fields #[] }
noncomputable def o_64:Params→Obj:=fun P=>{ cls:=.type SL.s5856160107412720595x4,data:=.fields #[.str a76 198,.str a76 199,.str a1 200,.int 5 0,.int 0 0,.int 0 0,.int 0 0,.int 0 0,.ref 25,.bool false,.int 181 0,.ref 26,.none,.none,.none,.none,.int 201 0,.int 5 0,.str a1 202] }
noncomputable def o_65:Params→Obj:=fun P=>{ cls:=.type SL.s658472552662922059x5,slots:=#[some (.ref 27),some (.ref 3),some (.ref 24),none,some (.str a11 194),none,some (.ref 0)] }
noncomputable def o_66:Params→Obj:=fun P=>{ cls:=.type SL.s2766695959194262286x5,data:=.seq #[] }
noncomputable def o_67:Params→Obj:=fun P=>{ cls:=.type SL.s14018661285674007319x4,data:=Data.dict #[{ hash:=PyData.keyHash P a10,key:=.str a10 203,val:=.str a11 194 },{ hash:=PyData.keyHash P a12,key:=.str a12 207,val:=.int 5 206 },{ hash:=PyData.keyHash P a14,key:=.str a14 208,val:=.ref 29 },{ hash:=PyData.keyHash P a2,key:=.str a2 210,val:=.ref 32 },{ hash:=PyData.keyHash P a15,key:=.str a15 211,val:=.none }] 3 }
noncomputable def o_69:Params→Obj:=fun P=>{ cls:=.type SL.s14755015743595814543x17,data:=.fields #[.str a2 209,.ref 31,.builtin SL.s10220274742760427390x26,.none] }
noncomputable def o_70:Params→Obj:=fun P=>{ cls:=.type SL.s4290257624100764138x5,data:=.fields #[.ref 31,.ref 31,.ref 31] }
noncomputable def o_71:Params→Obj:=fun P=>{ cls:=.type SL.s11030030927630378310x26,data:=.fields #[.builtin SL.s4860613602091757760x24,.ref 31] }
noncomputable def o_74:Params→Obj:=fun P=>{ cls:=.type SL.s17162191345867700912x4,data:=Data.cls { name:=a76,bases:=[.type SL.s5946037652744460706x9],mro:=[.ref 31,.type SL.s5946037652744460706x9,.type SL.s4278001404047624695x13,.type SL.s2742458400755230247x6],ns:=30,qualname:=a76,subclasses:=[.ref 51] },slots:=#[some (.ref 22),none,some (.str a76 196),some (.str a76 204),some (.builtin SL.s5160863994218179198x17),some (.bool true)] }
noncomputable def o_75:Params→Obj:=fun P=>{ cls:=.type SL.s2766695959194262286x5,data:=.seq #[.ref 31] }
noncomputable def o_76:Params→Obj:=fun P=>{ cls:=.type SL.s11030030927630378310x26,data:=.fields #[.builtin SL.s10062305145149207511x16,.type SL.s17162191345867700912x4] }
noncomputable def o_77:Params→Obj:=fun P=>{ cls:=.type SL.s14018661285674007319x4,data:=Data.dict #[{ hash:=PyData.keyHash P a10,key:=.str a10 223,val:=.str a11 194 },{ hash:=PyData.keyHash P a101,key:=.str a101 225,val:=.str a39 224 },{ hash:=PyData.keyHash P a12,key:=.str a12 227,val:=.int 7 226 },{ hash:=PyData.keyHash P a13,key:=.str a13 236,val:=.ref 48 },{ hash:=PyData.keyHash P a14,key:=.str a14 239,val:=.ref 49 }] 5 }
noncomputable def o_78:Params→Obj:=fun P=>{ cls:=.type SL.s2766695959194262286x5,data:=.seq #[] }
noncomputable def o_79:Params→Obj:=fun P=>{ cls:=.none,data:=.fields #[.int 9 0,.int 4 0,.ref 47] }
noncomputable def o_80:Params→Obj:=fun P=>{ cls:=.type SL.s5856160107412720595x4,data:=.fields #[.str a39 218,.str a39 219,.str a1 220,.int 7 0,.int 0 0,.int 0 0,.int 0 0,.int 0 0,.ref 38,.bool false,.int 181 0,.ref 39,.none,.none,.none,.none,.int 221 0,.int 7 0,.str a1 222] }
noncomputable def o_81:Params→Obj:=fun P=>{ cls:=.type SL.s658472552662922059x5,slots:=#[some (.ref 40),some (.ref 3),some (.ref 37),none,some (.str a11 194),none,some (.ref 0)] }
noncomputable def o_82:Params→Obj:=fun P=>{ cls:=.type SL.s2766695959194262286x5,data:=.seq #[] }
noncomputable def o_83:Params→Obj:=fun P=>{ cls:=.none,data:=.fields #[] }
noncomputable def o_84:Params→Obj:=fun P=>{ cls:=.type SL.s2766695959194262286x5,data:=.seq #[.str a5 231,.str a163 232,.str a97 233] }
noncomputable def o_85:Params→Obj:=fun P=>{ cls:=.type SL.s2766695959194262286x5,data:=.seq #[] }
noncomputable def o_86:Params→Obj:=fun P=>{ cls:=.none,data:=.func fd2 }
noncomputable def o_87:Params→Obj:=fun P=>{ cls:=.type SL.s5856160107412720595x4,data:=.fields #[.str a13 228,.str a164 229,.str a1 230,.int 9 0,.int 3 0,.int 0 0,.int 0 0,.int 3 0,.ref 42,.bool true,.int 181 0,.ref 43,.none,.ref 44,.ref 45,.ref 46,.int 234 0,.int 9 0,.str a1 235] }
noncomputable def o_88:Params→Obj:=fun P=>{ cls:=.type SL.s7174869446012820540x8,data:=.func fd3 }
noncomputable def o_89:Params→Obj:=fun P=>{ cls:=.type SL.s2766695959194262286x5,data:=.seq #[.str a97 237,.str a163 238] }
noncomputable def o_90:Params→Obj:=fun P=>{ cls:=.type SL.s14018661285674007319x4,data:=Data.dict #[{ hash:=PyData.keyHash P a10,key:=.str a10 223,val:=.str a11 194 },{ hash:=PyData.keyHash P a12,key:=.str a12 227,val:=.int 7 226 },{ hash:=PyData.keyHash P a13,key:=.str a13 236,val:=.ref 48 },{ hash:=PyData.keyHash P a14,key:=.str a14 239,val:=.ref 49 },{ hash:=PyData.keyHash P a15,key:=.str a15 240,val:=.none }] 2 }
noncomputable def o_91:Params→Obj:=fun P=>{ cls:=.type SL.s17162191345867700912x4,data:=Data.cls { name:=a39,bases:=[.ref 31],mro:=[.ref 51,.ref 31,.type SL.s5946037652744460706x9,.type SL.s4278001404047624695x13,.type SL.s2742458400755230247x6],ns:=50,qualname:=a39 },slots:=#[some (.ref 35),none,some (.str a39 216),some (.str a39 224),some (.builtin SL.s5160863994218179198x17),some (.bool true)] }
noncomputable def o_92:Params→Obj:=fun P=>{ cls:=.type SL.s4290257624100764138x5,data:=.fields #[.ref 51,.ref 51,.ref 51] }
noncomputable def o_93:Params→Obj:=fun P=>{ cls:=.type SL.s11030030927630378310x26,data:=.fields #[.builtin SL.s4860613602091757760x24,.ref 51] }
noncomputable def o_94:Params→Obj:=fun P=>{ cls:=.type SL.s14018661285674007319x4,data:=Data.dict #[{ hash:=PyData.keyHash P a68,key:=.str a68 165,val:=.str a27 243 },{ hash:=PyData.keyHash P a15,key:=.str a15 166,val:=.none },{ hash:=PyData.keyHash P a69,key:=.str a69 167,val:=.none },{ hash:=PyData.keyHash P a70,key:=.str a70 168,val:=.builtin SL.s7097527257260152453x26 },{ hash:=PyData.keyHash P a71,key:=.str a71 169,val:=.none },{ hash:=PyData.keyHash P a72,key:=.str a72 170,val:=.ref 6 },{ hash:=PyData.keyHash P a73,key:=.str a73 171,val:=.ref 4 },{ hash:=PyData.keyHash P a74,key:=.str a74 173,val:=.str a1 172 },{ hash:=PyData.keyHash P a75,key:=.str a75 174,val:=.none },{ hash:=PyData.keyHash P a26,key:=.str a26 193,val:=.ref 21 },{ hash:=PyData.keyHash P a76,key:=.str a76 215,val:=.ref 31 },{ hash:=PyData.keyHash P a39,key:=.str a39 242,val:=.ref 51 },{ hash:=PyData.keyHash P a77,key:=.str a77 305,val:=.ref 98 }] 13 }
noncomputable def o_95:Params→Obj:=fun P=>{ cls:=.none,data:=.fields #[.int 1 0,.int 0 0,.ref 20,.int 5 0,.int 0 0,.ref 27,.int 7 0,.int 0 0,.ref 40,.int 13 0,.int 0 0,.ref 59] }
noncomputable def o_96:Params→Obj:=fun P=>{ cls:=.type SL.s2766695959194262286x5,data:=.seq #[] }
noncomputable def o_97:Params→Obj:=fun P=>{ cls:=.type SL.s11030030927630378310x26,data:=.fields #[.builtin SL.s10062305145149207511x16,.type SL.s17162191345867700912x4] }
noncomputable def o_98:Params→Obj:=fun P=>{ cls:=.type SL.s14018661285674007319x4,data:=Data.dict #[{ hash:=PyData.keyHash P a10,key:=.str a10 252,val:=.str a27 243 },{ hash:=PyData.keyHash P a101,key:=.str a101 254,val:=.str a77 253 },{ hash:=PyData.keyHash P a12,key:=.str a12 256,val:=.int 13 255 },{ hash:=PyData.keyHash P a13,key:=.str a13 263,val:=.ref 67 },{ hash:=PyData.keyHash P a92,key:=.str a92 271,val:=.ref 74 },{ hash:=PyData.keyHash P a102,key:=.str a102 280,val:=.ref 81 },{ hash:=PyData.keyHash P a24,key:=.str a24 288,val:=.ref 88 },{ hash:=PyData.keyHash P a31,key:=.str a31 296,val:=.ref 95 },{ hash:=PyData.keyHash P a14,key:=.str a14 298,val:=.ref 96 }] 9 }
noncomputable def o_99:Params→Obj:=fun P=>{ cls:=.type SL.s2766695959194262286x5,data:=.seq #[] }
noncomputable def o_100:Params→Obj:=fun P=>{ cls:=.none,data:=.fields #[.int 15 0,.int 4 0,.ref 66,.int 18 0,.int 4 0,.ref 73,.int 21 0,.int 4 0,.ref 80,.int 28 0,.int 4 0,.ref 87,.int 31 0,.int 4 0,.ref 94] }
noncomputable def o_101:Params→Obj:=fun P=>{ cls:=.type SL.s5856160107412720595x4,data:=.fields #[.str a77 247,.str a77 248,.str a1 249,.int 13 0,.int 0 0,.int 0 0,.int 0 0,.int 0 0,.ref 57,.bool false,.int 181 0,.ref 58,.none,.none,.none,.none,.int 250 0,.int 13 0,.str a1 251] }
noncomputable def o_102:Params→Obj:=fun P=>{ cls:=.type SL.s658472552662922059x5,slots:=#[some (.ref 59),some (.ref 3),some (.ref 56),none,some (.str a27 243),none,some (.ref 0)] }
noncomputable def o_103:Params→Obj:=fun P=>{ cls:=.type SL.s2766695959194262286x5,data:=.seq #[] }
noncomputable def o_104:Params→Obj:=fun P=>{ cls:=.none,data:=.fields #[] }
noncomputable def o_105:Params→Obj:=fun P=>{ cls:=.type SL.s2766695959194262286x5,data:=.seq #[.str a5 260] }
noncomputable def o_106:Params→Obj:=fun P=>{ cls:=.type SL.s2766695959194262286x5,data:=.seq #[] }
noncomputable def o_107:Params→Obj:=fun P=>{ cls:=.none,data:=.func fd4 }
noncomputable def o_108:Params→Obj:=fun P=>{ cls:=.type SL.s5856160107412720595x4,data:=.fields #[.str a13 257,.str a114 258,.str a1 259,.int 15 0,.int 1 0,.int 0 0,.int 0 0,.int 3 0,.ref 61,.bool true,.int 181 0,.ref 62,.none,.ref 63,.ref 64,.ref 65,.int 261 0,.int 15 0,.str a1 262] }
noncomputable def o_109:Params→Obj:=fun P=>{ cls:=.type SL.s7174869446012820540x8,data:=.func fd5 }
noncomputable def o_110:Params→Obj:=fun P=>{ cls:=.type SL.s2766695959194262286x5,data:=.seq #[] }
noncomputable def o_111:Params→Obj:=fun P=>{ cls:=.none,data:=.fields #[] }
noncomputable def o_112:Params→Obj:=fun P=>{ cls:=.type SL.s2766695959194262286x5,data:=.seq #[.str a5 267,.str a29 268] }
noncomputable def o_113:Params→Obj:=fun P=>{ cls:=.type SL.s2766695959194262286x5,data:=.seq #[] }
noncomputable def o_114:Params→Obj:=fun P=>{ cls:=.none,data:=.func fd6 }
noncomputable def o_115:Params→Obj:=fun P=>{ cls:=.type SL.s5856160107412720595x4,data:=.fields #[.str a92 264,.str a144 265,.str a1 266,.int 18 0,.int 2 0,.int 0 0,.int 0 0,.int 3 0,.ref 68,.bool true,.int 181 0,.ref 69,.none,.ref 70,.ref 71,.ref 72,.int 269 0,.int 18 0,.str a1 270] }
noncomputable def o_116:Params→Obj:=fun P=>{ cls:=.type SL.s7174869446012820540x8,data:=.func fd7 }
noncomputable def o_117:Params→Obj:=fun P=>{ cls:=.type SL.s2766695959194262286x5,data:=.seq #[] }
noncomputable def o_118:Params→Obj:=fun P=>{ cls:=.none,data:=.fields #[] }
noncomputable def o_119:Params→Obj:=fun P=>{ cls:=.type SL.s2766695959194262286x5,data:=.seq #[.str a5 275,.str a165 276,.str a166 277] }
noncomputable def o_120:Params→Obj:=fun P=>{ cls:=.type SL.s2766695959194262286x5,data:=.seq #[] }
noncomputable def o_121:Params→Obj:=fun P=>{ cls:=.none,data:=.func fd8 }
noncomputable def o_122:Params→Obj:=fun P=>{ cls:=.type SL.s5856160107412720595x4,data:=.fields #[.str a102 272,.str a167 273,.str a1 274,.int 21 0,.int 2 0,.int 0 0,.int 0 0,.int 3 0,.ref 75,.bool true,.int 181 0,.ref 76,.none,.ref 77,.ref 78,.ref 79,.int 278 0,.int 21 0,.str a1 279] }
noncomputable def o_123:Params→Obj:=fun P=>{ cls:=.type SL.s7174869446012820540x8,data:=.func fd9 }
noncomputable def o_124:Params→Obj:=fun P=>{ cls:=.type SL.s2766695959194262286x5,data:=.seq #[] }
noncomputable def o_125:Params→Obj:=fun P=>{ cls:=.none,data:=.fields #[] }
noncomputable def o_126:Params→Obj:=fun P=>{ cls:=.type SL.s2766695959194262286x5,data:=.seq #[.str a5 284,.str a122 285] }
noncomputable def o_127:Params→Obj:=fun P=>{ cls:=.type SL.s2766695959194262286x5,data:=.seq #[] }
noncomputable def o_128:Params→Obj:=fun P=>{ cls:=.none,data:=.func fd10 }
noncomputable def o_129:Params→Obj:=fun P=>{ cls:=.type SL.s5856160107412720595x4,data:=.fields #[.str a24 281,.str a121 282,.str a1 283,.int 28 0,.int 2 0,.int 0 0,.int 0 0,.int 3 0,.ref 82,.bool true,.int 181 0,.ref 83,.none,.ref 84,.ref 85,.ref 86,.int 286 0,.int 28 0,.str a1 287] }
noncomputable def o_130:Params→Obj:=fun P=>{ cls:=.type SL.s7174869446012820540x8,data:=.func fd11 }
noncomputable def o_131:Params→Obj:=fun P=>{ cls:=.type SL.s2766695959194262286x5,data:=.seq #[] }
noncomputable def o_132:Params→Obj:=fun P=>{ cls:=.none,data:=.fields #[] }
noncomputable def o_133:Params→Obj:=fun P=>{ cls:=.type SL.s2766695959194262286x5,data:=.seq #[.str a5 292,.str a89 293] }
noncomputable def o_134:Params→Obj:=fun P=>{ cls:=.type SL.s2766695959194262286x5,data:=.seq #[] }
noncomputable def o_135:Params→Obj:=fun P=>{ cls:=.none,data:=.func fd12 }
noncomputable def o_136:Params→Obj:=fun P=>{ cls:=.type SL.s5856160107412720595x4,data:=.fields #[.str a31 289,.str a126 290,.str a1 291,.int 31 0,.int 2 0,.int 0 0,.int 0 0,.int 3 0,.ref 89,.bool true,.int 181 0,.ref 90,.none,.ref 91,.ref 92,.ref 93,.int 294 0,.int 31 0,.str a1 295] }
noncomputable def o_137:Params→Obj:=fun P=>{ cls:=.type SL.s7174869446012820540x8,data:=.func fd13 }
noncomputable def o_138:Params→Obj:=fun P=>{ cls:=.type SL.s2766695959194262286x5,data:=.seq #[.str a8 297] }
noncomputable def o_139:Params→Obj:=fun P=>{ cls:=.type SL.s14018661285674007319x4,data:=Data.dict #[{ hash:=PyData.keyHash P a10,key:=.str a10 252,val:=.str a27 243 },{ hash:=PyData.keyHash P a12,key:=.str a12 256,val:=.int 13 255 },{ hash:=PyData.keyHash P a13,key:=.str a13 263,val:=.ref 67 },{ hash:=PyData.keyHash P a92,key:=.str a92 271,val:=.ref 74 },{ hash:=PyData.keyHash P a102,key:=.str a102 280,val:=.ref 81 },{ hash:=PyData.keyHash P a24,key:=.str a24 288,val:=.ref 88 },{ hash:=PyData.keyHash P a31,key:=.str a31 296,val:=.ref 95 },{ hash:=PyData.keyHash P a14,key:=.str a14 298,val:=.ref 96 },{ hash:=PyData.keyHash P a33,key:=.str a33 300,val:=.ref 99 },{ hash:=PyData.keyHash P a2,key:=.str a2 302,val:=.ref 100 },{ hash:=PyData.keyHash P a15,key:=.str a15 303,val:=.none }] 4 }
noncomputable def o_140:Params→Obj:=fun P=>{ cls:=.type SL.s17162191345867700912x4,data:=Data.cls { name:=a77,bases:=[.type SL.s2742458400755230247x6],mro:=[.ref 98,.type SL.s2742458400755230247x6],ns:=97,qualname:=a77 },slots:=#[none,none,some (.str a77 245),some (.str a77 253),some (.builtin SL.s11443829558043349243x14),some (.bool true)] }
noncomputable def o_141:Params→Obj:=fun P=>{ cls:=.type SL.s14755015743595814543x17,data:=.fields #[.str a33 299,.ref 98,.builtin SL.s6511155373996960695x17,.builtin SL.s12411053484034534018x21] }
noncomputable def o_142:Params→Obj:=fun P=>{ cls:=.type SL.s14755015743595814543x17,data:=.fields #[.str a2 301,.ref 98,.builtin SL.s10220274742760427390x26,.none] }
noncomputable def o_143:Params→Obj:=fun P=>{ cls:=.type SL.s4290257624100764138x5,data:=.fields #[.ref 98,.ref 98,.ref 98] }
noncomputable def o_144:Params→Obj:=fun P=>{ cls:=.type SL.s11030030927630378310x26,data:=.fields #[.builtin SL.s4860613602091757760x24,.ref 98] }
noncomputable def o_147:Params→Obj:=fun P=>{ cls:=.type SL.s2766695959194262286x5,data:=.seq #[] }
noncomputable def o_148:Params→Obj:=fun P=>{ cls:=.type SL.s11030030927630378310x26,data:=.fields #[.builtin SL.s10062305145149207511x16,.type SL.s17162191345867700912x4] }
noncomputable def o_149:Params→Obj:=fun P=>{ cls:=.type SL.s14018661285674007319x4,data:=Data.dict #[{ hash:=PyData.keyHash P a10,key:=.str a10 313,val:=.str a27 243 },{ hash:=PyData.keyHash P a101,key:=.str a101 315,val:=.str a78 314 },{ hash:=PyData.keyHash P a12,key:=.str a12 317,val:=.int 33 316 },{ hash:=PyData.keyHash P a13,key:=.str a13 325,val:=.ref 116 },{ hash:=PyData.keyHash P a95,key:=.str a95 333,val:=.ref 123 },{ hash:=PyData.keyHash P a94,key:=.str a94 340,val:=.ref 130 },{ hash:=PyData.keyHash P a92,key:=.str a92 348,val:=.ref 137 },{ hash:=PyData.keyHash P a102,key:=.str a102 358,val:=.ref 144 },{ hash:=PyData.keyHash P a6,key:=.str a6 366,val:=.ref 151 },{ hash:=PyData.keyHash P a24,key:=.str a24 373,val:=.ref 158 },{ hash:=PyData.keyHash P a31,key:=.str a31 380,val:=.ref 165 },{ hash:=PyData.keyHash P a14,key:=.str a14 383,val:=.ref 166 }] 12 }
noncomputable def o_150:Params→Obj:=fun P=>{ cls:=.type SL.s2766695959194262286x5,data:=.seq #[] }
noncomputable def o_151:Params→Obj:=fun P=>{ cls:=.none,data:=.fields #[.int 35 0,.int 4 0,.ref 115,.int 39 0,.int 4 0,.ref 122,.int 42 0,.int 4 0,.ref 129,.int 45 0,.int 4 0,.ref 136,.int 54 0,.int 4 0,.ref 143,.int 69 0,.int 4 0,.ref 150,.int 75 0,.int 4 0,.ref 157,.int 78 0,.int 4 0,.ref 164] }
noncomputable def o_152:Params→Obj:=fun P=>{ cls:=.type SL.s5856160107412720595x4,data:=.fields #[.str a78 308,.str a78 309,.str a1 310,.int 33 0,.int 0 0,.int 0 0,.int 0 0,.int 0 0,.ref 106,.bool false,.int 181 0,.ref 107,.none,.none,.none,.none,.int 311 0,.int 33 0,.str a1 312] }
noncomputable def o_153:Params→Obj:=fun P=>{ cls:=.type SL.s658472552662922059x5,slots:=#[some (.ref 108),some (.ref 3),some (.ref 105),none,some (.str a27 243),none,some (.ref 0)] }
noncomputable def o_154:Params→Obj:=fun P=>{ cls:=.type SL.s2766695959194262286x5,data:=.seq #[] }
noncomputable def o_155:Params→Obj:=fun P=>{ cls:=.none,data:=.fields #[] }
noncomputable def o_156:Params→Obj:=fun P=>{ cls:=.type SL.s2766695959194262286x5,data:=.seq #[.str a5 321,.str a16 322] }
noncomputable def o_157:Params→Obj:=fun P=>{ cls:=.type SL.s2766695959194262286x5,data:=.seq #[] }
noncomputable def o_158:Params→Obj:=fun P=>{ cls:=.none,data:=.func fd14 }
noncomputable def o_159:Params→Obj:=fun P=>{ cls:=.type SL.s5856160107412720595x4,data:=.fields #[.str a13 318,.str a152 319,.str a1 320,.int 35 0,.int 2 0,.int 0 0,.int 0 0,.int 3 0,.ref 110,.bool true,.int 181 0,.ref 111,.none,.ref 112,.ref 113,.ref 114,.int 323 0,.int 35 0,.str a1 324] }
noncomputable def o_160:Params→Obj:=fun P=>{ cls:=.type SL.s7174869446012820540x8,data:=.func fd15 }
noncomputable def o_161:Params→Obj:=fun P=>{ cls:=.type SL.s2766695959194262286x5,data:=.seq #[] }
noncomputable def o_162:Params→Obj:=fun P=>{ cls:=.none,data:=.fields #[] }
noncomputable def o_163:Params→Obj:=fun P=>{ cls:=.type SL.s2766695959194262286x5,data:=.seq #[.str a5 329,.str a163 330] }
noncomputable def o_164:Params→Obj:=fun P=>{ cls:=.type SL.s2766695959194262286x5,data:=.seq #[] }
noncomputable def o_165:Params→Obj:=fun P=>{ cls:=.none,data:=.func fd16 }
noncomputable def o_166:Params→Obj:=fun P=>{ cls:=.type SL.s5856160107412720595x4,data:=.fields #[.str a95 326,.str a168 327,.str a1 328,.int 39 0,.int 2 0,.int 0 0,.int 0 0,.int 3 0,.ref 117,.bool true,.int 181 0,.ref 118,.none,.ref 119,.ref 120,.ref 121,.int 331 0,.int 39 0,.str a1 332] }
noncomputable def o_167:Params→Obj:=fun P=>{ cls:=.type SL.s7174869446012820540x8,data:=.func fd17 }
noncomputable def o_168:Params→Obj:=fun P=>{ cls:=.type SL.s2766695959194262286x5,data:=.seq #[] }
noncomputable def o_169:Params→Obj:=fun P=>{ cls:=.none,data:=.fields #[] }
noncomputable def o_170:Params→Obj:=fun P=>{ cls:=.type SL.s2766695959194262286x5,data:=.seq #[.str a5 337] }
noncomputable def o_171:Params→Obj:=fun P=>{ cls:=.type SL.s2766695959194262286x5,data:=.seq #[] }
noncomputable def o_172:Params→Obj:=fun P=>{ cls:=.none,data:=.func fd18 }
noncomputable def o_173:Params→Obj:=fun P=>{ cls:=.type SL.s5856160107412720595x4,data:=.fields #[.str a94 334,.str a160 335,.str a1 336,.int 42 0,.int 1 0,.int 0 0,.int 0 0,.int 3 0,.ref 124,.bool true,.int 181 0,.ref 125,.none,.ref 126,.ref 127,.ref 128,.int 338 0,.int 42 0,.str a1 339] }
noncomputable def o_174:Params→Obj:=fun P=>{ cls:=.type SL.s7174869446012820540x8,data:=.func fd19 }
noncomputable def o_175:Params→Obj:=fun P=>{ cls:=.type SL.s2766695959194262286x5,data:=.seq #[] }
noncomputable def o_176:Params→Obj:=fun P=>{ cls:=.none,data:=.fields #[] }
noncomputable def o_177:Params→Obj:=fun P=>{ cls:=.type SL.s2766695959194262286x5,data:=.seq #[.str a5 344,.str a29 345] }
noncomputable def o_178:Params→Obj:=fun P=>{ cls:=.type SL.s2766695959194262286x5,data:=.seq #[] }
noncomputable def o_179:Params→Obj:=fun P=>{ cls:=.none,data:=.func fd20 }
noncomputable def o_180:Params→Obj:=fun P=>{ cls:=.type SL.s5856160107412720595x4,data:=.fields #[.str a92 341,.str a93 342,.str a1 343,.int 45 0,.int 1 0,.int 0 0,.int 0 0,.int 3 0,.ref 131,.bool true,.int 181 0,.ref 132,.none,.ref 133,.ref 134,.ref 135,.int 346 0,.int 45 0,.str a1 347] }
noncomputable def o_181:Params→Obj:=fun P=>{ cls:=.type SL.s7174869446012820540x8,data:=.func fd21 }
noncomputable def o_182:Params→Obj:=fun P=>{ cls:=.type SL.s2766695959194262286x5,data:=.seq #[] }
noncomputable def o_183:Params→Obj:=fun P=>{ cls:=.none,data:=.fields #[] }
noncomputable def o_184:Params→Obj:=fun P=>{ cls:=.type SL.s2766695959194262286x5,data:=.seq #[.str a5 352,.str a145 353,.str a169 354,.str a170 355] }
noncomputable def o_185:Params→Obj:=fun P=>{ cls:=.type SL.s2766695959194262286x5,data:=.seq #[] }
noncomputable def o_186:Params→Obj:=fun P=>{ cls:=.none,data:=.func fd22 }
noncomputable def o_187:Params→Obj:=fun P=>{ cls:=.type SL.s5856160107412720595x4,data:=.fields #[.str a102 349,.str a171 350,.str a1 351,.int 54 0,.int 1 0,.int 0 0,.int 0 0,.int 3 0,.ref 138,.bool true,.int 181 0,.ref 139,.none,.ref 140,.ref 141,.ref 142,.int 356 0,.int 54 0,.str a1 357] }
noncomputable def o_188:Params→Obj:=fun P=>{ cls:=.type SL.s7174869446012820540x8,data:=.func fd23 }
noncomputable def o_189:Params→Obj:=fun P=>{ cls:=.type SL.s2766695959194262286x5,data:=.seq #[] }
noncomputable def o_190:Params→Obj:=fun P=>{ cls:=.none,data:=.fields #[] }
noncomputable def o_191:Params→Obj:=fun P=>{ cls:=.type SL.s2766695959194262286x5,data:=.seq #[.str a5 362,.str a165 363] }
noncomputable def o_192:Params→Obj:=fun P=>{ cls:=.type SL.s2766695959194262286x5,data:=.seq #[] }
noncomputable def o_193:Params→Obj:=fun P=>{ cls:=.none,data:=.func fd24 }
noncomputable def o_194:Params→Obj:=fun P=>{ cls:=.type SL.s5856160107412720595x4,data:=.fields #[.str a6 359,.str a159 360,.str a1 361,.int 69 0,.int 1 0,.int 0 0,.int 0 0,.int 3 0,.ref 145,.bool true,.int 181 0,.ref 146,.none,.ref 147,.ref 148,.ref 149,.int 364 0,.int 69 0,.str a1 365] }
noncomputable def o_195:Params→Obj:=fun P=>{ cls:=.type SL.s7174869446012820540x8,data:=.func fd25 }
noncomputable def o_196:Params→Obj:=fun P=>{ cls:=.type SL.s2766695959194262286x5,data:=.seq #[] }
noncomputable def o_197:Params→Obj:=fun P=>{ cls:=.none,data:=.fields #[] }
noncomputable def o_198:Params→Obj:=fun P=>{ cls:=.type SL.s2766695959194262286x5,data:=.seq #[.str a5 370] }
noncomputable def o_199:Params→Obj:=fun P=>{ cls:=.type SL.s2766695959194262286x5,data:=.seq #[] }
noncomputable def o_200:Params→Obj:=fun P=>{ cls:=.none,data:=.func fd26 }
noncomputable def o_201:Params→Obj:=fun P=>{ cls:=.type SL.s5856160107412720595x4,data:=.fields #[.str a24 367,.str a25 368,.str a1 369,.int 75 0,.int 1 0,.int 0 0,.int 0 0,.int 3 0,.ref 152,.bool true,.int 181 0,.ref 153,.none,.ref 154,.ref 155,.ref 156,.int 371 0,.int 75 0,.str a1 372] }
noncomputable def o_202:Params→Obj:=fun P=>{ cls:=.type SL.s7174869446012820540x8,data:=.func fd27 }
noncomputable def o_203:Params→Obj:=fun P=>{ cls:=.type SL.s2766695959194262286x5,data:=.seq #[] }
noncomputable def o_204:Params→Obj:=fun P=>{ cls:=.none,data:=.fields #[] }
noncomputable def o_205:Params→Obj:=fun P=>{ cls:=.type SL.s2766695959194262286x5,data:=.seq #[.str a5 377] }
noncomputable def o_206:Params→Obj:=fun P=>{ cls:=.type SL.s2766695959194262286x5,data:=.seq #[] }
noncomputable def o_207:Params→Obj:=fun P=>{ cls:=.none,data:=.func fd28 }
noncomputable def o_208:Params→Obj:=fun P=>{ cls:=.type SL.s5856160107412720595x4,data:=.fields #[.str a31 374,.str a32 375,.str a1 376,.int 78 0,.int 1 0,.int 0 0,.int 0 0,.int 3 0,.ref 159,.bool true,.int 181 0,.ref 160,.none,.ref 161,.ref 162,.ref 163,.int 378 0,.int 78 0,.str a1 379] }
noncomputable def o_209:Params→Obj:=fun P=>{ cls:=.type SL.s7174869446012820540x8,data:=.func fd29 }
noncomputable def o_210:Params→Obj:=fun P=>{ cls:=.type SL.s2766695959194262286x5,data:=.seq #[.str a97 381,.str a16 382] }
noncomputable def o_211:Params→Obj:=fun P=>{ cls:=.type SL.s14018661285674007319x4,data:=Data.dict #[{ hash:=PyData.keyHash P a10,key:=.str a10 313,val:=.str a27 243 },{ hash:=PyData.keyHash P a12,key:=.str a12 317,val:=.int 33 316 },{ hash:=PyData.keyHash P a13,key:=.str a13 325,val:=.ref 116 },{ hash:=PyData.keyHash P a95,key:=.str a95 333,val:=.ref 123 },{ hash:=PyData.keyHash P a94,key:=.str a94 340,val:=.ref 130 },{ hash:=PyData.keyHash P a92,key:=.str a92 348,val:=.ref 137 },{ hash:=PyData.keyHash P a102,key:=.str a102 358,val:=.ref 144 },{ hash:=PyData.keyHash P a6,key:=.str a6 366,val:=.ref 151 },{ hash:=PyData.keyHash P a24,key:=.str a24 373,val:=.ref 158 },{ hash:=PyData.keyHash P a31,key:=.str a31 380,val:=.ref 165 },{ hash:=PyData.keyHash P a14,key:=.str a14 383,val:=.ref 166 },{ hash:=PyData.keyHash P a33,key:=.str a33 385,val:=.ref 169 },{ hash:=PyData.keyHash P a2,key:=.str a2 387,val:=.ref 170 },{ hash:=PyData.keyHash P a15,key:=.str a15 388,val:=.none }] 4 }
noncomputable def o_212:Params→Obj:=fun P=>{ cls:=.type SL.s17162191345867700912x4,data:=Data.cls { name:=a78,bases:=[.type SL.s2742458400755230247x6],mro:=[.ref 168,.type SL.s2742458400755230247x6],ns:=167,qualname:=a78 },slots:=#[none,none,some (.str a78 306),some (.str a78 314),some (.builtin SL.s11443829558043349243x14),some (.bool true)] }
noncomputable def o_213:Params→Obj:=fun P=>{ cls:=.type SL.s14755015743595814543x17,data:=.fields #[.str a33 384,.ref 168,.builtin SL.s6511155373996960695x17,.builtin SL.s12411053484034534018x21] }
noncomputable def o_214:Params→Obj:=fun P=>{ cls:=.type SL.s14755015743595814543x17,data:=.fields #[.str a2 386,.ref 168,.builtin SL.s10220274742760427390x26,.none] }
noncomputable def o_215:Params→Obj:=fun P=>{ cls:=.type SL.s4290257624100764138x5,data:=.fields #[.ref 168,.ref 168,.ref 168] }
noncomputable def o_216:Params→Obj:=fun P=>{ cls:=.type SL.s11030030927630378310x26,data:=.fields #[.builtin SL.s4860613602091757760x24,.ref 168] }
noncomputable def o_217:Params→Obj:=fun P=>{ cls:=.type SL.s14018661285674007319x4,data:=Data.dict #[{ hash:=PyData.keyHash P a68,key:=.str a68 165,val:=.str a100 391 },{ hash:=PyData.keyHash P a15,key:=.str a15 166,val:=.none },{ hash:=PyData.keyHash P a69,key:=.str a69 167,val:=.none },{ hash:=PyData.keyHash P a70,key:=.str a70 168,val:=.builtin SL.s7097527257260152453x26 },{ hash:=PyData.keyHash P a71,key:=.str a71 169,val:=.none },{ hash:=PyData.keyHash P a72,key:=.str a72 170,val:=.ref 6 },{ hash:=PyData.keyHash P a73,key:=.str a73 171,val:=.ref 4 },{ hash:=PyData.keyHash P a74,key:=.str a74 173,val:=.str a1 172 },{ hash:=PyData.keyHash P a75,key:=.str a75 174,val:=.none },{ hash:=PyData.keyHash P a26,key:=.str a26 193,val:=.ref 21 },{ hash:=PyData.keyHash P a76,key:=.str a76 215,val:=.ref 31 },{ hash:=PyData.keyHash P a39,key:=.str a39 242,val:=.ref 51 },{ hash:=PyData.keyHash P a77,key:=.str a77 305,val:=.ref 98 },{ hash:=PyData.keyHash P a78,key:=.str a78 390,val:=.ref 168 },{ hash:=PyData.keyHash P a66,key:=.str a66 439,val:=.ref 203 }] 15 }
noncomputable def o_218:Params→Obj:=fun P=>{ cls:=.none,data:=.fields #[.int 1 0,.int 0 0,.ref 20,.int 5 0,.int 0 0,.ref 27,.int 7 0,.int 0 0,.ref 40,.int 13 0,.int 0 0,.ref 59,.int 33 0,.int 0 0,.ref 108,.int 81 0,.int 0 0,.ref 178] }
noncomputable def o_219:Params→Obj:=fun P=>{ cls:=.type SL.s2766695959194262286x5,data:=.seq #[] }
noncomputable def o_220:Params→Obj:=fun P=>{ cls:=.type SL.s11030030927630378310x26,data:=.fields #[.builtin SL.s10062305145149207511x16,.type SL.s17162191345867700912x4] }
noncomputable def o_221:Params→Obj:=fun P=>{ cls:=.type SL.s14018661285674007319x4,data:=Data.dict #[{ hash:=PyData.keyHash P a10,key:=.str a10 400,val:=.str a100 391 },{ hash:=PyData.keyHash P a101,key:=.str a101 402,val:=.str a66 401 },{ hash:=PyData.keyHash P a12,key:=.str a12 404,val:=.int 81 403 },{ hash:=PyData.keyHash P a13,key:=.str a13 411,val:=.ref 186 },{ hash:=PyData.keyHash P a7,key:=.str a7 421,val:=.ref 193 },{ hash:=PyData.keyHash P a3,key:=.str a3 428,val:=.ref 200 },{ hash:=PyData.keyHash P a14,key:=.str a14 432,val:=.ref 201 }] 7 }
noncomputable def o_222:Params→Obj:=fun P=>{ cls:=.type SL.s2766695959194262286x5,data:=.seq #[] }
noncomputable def o_223:Params→Obj:=fun P=>{ cls:=.none,data:=.fields #[.int 83 0,.int 4 0,.ref 185,.int 88 0,.int 4 0,.ref 192,.int 97 0,.int 4 0,.ref 199] }
noncomputable def o_224:Params→Obj:=fun P=>{ cls:=.type SL.s5856160107412720595x4,data:=.fields #[.str a66 395,.str a66 396,.str a1 397,.int 81 0,.int 0 0,.int 0 0,.int 0 0,.int 0 0,.ref 176,.bool false,.int 181 0,.ref 177,.none,.none,.none,.none,.int 398 0,.int 81 0,.str a1 399] }
noncomputable def o_225:Params→Obj:=fun P=>{ cls:=.type SL.s658472552662922059x5,slots:=#[some (.ref 178),some (.ref 3),some (.ref 175),none,some (.str a100 391),none,some (.ref 0)] }
noncomputable def o_226:Params→Obj:=fun P=>{ cls:=.type SL.s2766695959194262286x5,data:=.seq #[] }
noncomputable def o_227:Params→Obj:=fun P=>{ cls:=.none,data:=.fields #[] }
noncomputable def o_228:Params→Obj:=fun P=>{ cls:=.type SL.s2766695959194262286x5,data:=.seq #[.str a5 408] }
noncomputable def o_229:Params→Obj:=fun P=>{ cls:=.type SL.s2766695959194262286x5,data:=.seq #[] }
noncomputable def o_230:Params→Obj:=fun P=>{ cls:=.none,data:=.func fd30 }
noncomputable def o_231:Params→Obj:=fun P=>{ cls:=.type SL.s5856160107412720595x4,data:=.fields #[.str a13 405,.str a99 406,.str a1 407,.int 83 0,.int 1 0,.int 0 0,.int 0 0,.int 3 0,.ref 180,.bool true,.int 181 0,.ref 181,.none,.ref 182,.ref 183,.ref 184,.int 409 0,.int 83 0,.str a1 410] }
noncomputable def o_232:Params→Obj:=fun P=>{ cls:=.type SL.s7174869446012820540x8,data:=.func fd31 }
noncomputable def o_233:Params→Obj:=fun P=>{ cls:=.type SL.s2766695959194262286x5,data:=.seq #[] }
noncomputable def o_234:Params→Obj:=fun P=>{ cls:=.none,data:=.fields #[] }
noncomputable def o_235:Params→Obj:=fun P=>{ cls:=.type SL.s2766695959194262286x5,data:=.seq #[.str a5 415,.str a29 416,.str a28 417,.str a59 418] }
noncomputable def o_236:Params→Obj:=fun P=>{ cls:=.type SL.s2766695959194262286x5,data:=.seq #[] }
noncomputable def o_237:Params→Obj:=fun P=>{ cls:=.none,data:=.func fd32 }
noncomputable def o_238:Params→Obj:=fun P=>{ cls:=.type SL.s5856160107412720595x4,data:=.fields #[.str a7 412,.str a115 413,.str a1 414,.int 88 0,.int 3 0,.int 0 0,.int 0 0,.int 3 0,.ref 187,.bool true,.int 181 0,.ref 188,.none,.ref 189,.ref 190,.ref 191,.int 419 0,.int 88 0,.str a1 420] }
noncomputable def o_239:Params→Obj:=fun P=>{ cls:=.type SL.s7174869446012820540x8,data:=.func fd33 }
noncomputable def o_240:Params→Obj:=fun P=>{ cls:=.type SL.s2766695959194262286x5,data:=.seq #[] }
noncomputable def o_241:Params→Obj:=fun P=>{ cls:=.none,data:=.fields #[] }
noncomputable def o_242:Params→Obj:=fun P=>{ cls:=.type SL.s2766695959194262286x5,data:=.seq #[.str a5 425] }
noncomputable def o_243:Params→Obj:=fun P=>{ cls:=.type SL.s2766695959194262286x5,data:=.seq #[] }
noncomputable def o_244:Params→Obj:=fun P=>{ cls:=.none,data:=.func fd34 }
noncomputable def o_245:Params→Obj:=fun P=>{ cls:=.type SL.s5856160107412720595x4,data:=.fields #[.str a3 422,.str a4 423,.str a1 424,.int 97 0,.int 1 0,.int 0 0,.int 0 0,.int 3 0,.ref 194,.bool true,.int 181 0,.ref 195,.none,.ref 196,.ref 197,.ref 198,.int 426 0,.int 97 0,.str a1 427] }
noncomputable def o_246:Params→Obj:=fun P=>{ cls:=.type SL.s7174869446012820540x8,data:=.func fd35 }
noncomputable def o_247:Params→Obj:=fun P=>{ cls:=.type SL.s2766695959194262286x5,data:=.seq #[.str a6 429,.str a88 430,.str a8 431] }
noncomputable def o_248:Params→Obj:=fun P=>{ cls:=.type SL.s14018661285674007319x4,data:=Data.dict #[{ hash:=PyData.keyHash P a10,key:=.str a10 400,val:=.str a100 391 },{ hash:=PyData.keyHash P a12,key:=.str a12 404,val:=.int 81 403 },{ hash:=PyData.keyHash P a13,key:=.str a13 411,val:=.ref 186 },{ hash:=PyData.keyHash P a7,key:=.str a7 421,val:=.ref 193 },{ hash:=PyData.keyHash P a3,key:=.str a3 428,val:=.ref 200 },{ hash:=PyData.keyHash P a14,key:=.str a14 432,val:=.ref 201 },{ hash:=PyData.keyHash P a33,key:=.str a33 434,val:=.ref 204 },{ hash:=PyData.keyHash P a2,key:=.str a2 436,val:=.ref 205 },{ hash:=PyData.keyHash P a15,key:=.str a15 437,val:=.none }] 4 }
noncomputable def o_249:Params→Obj:=fun P=>{ cls:=.type SL.s17162191345867700912x4,data:=Data.cls { name:=a66,bases:=[.type SL.s2742458400755230247x6],mro:=[.ref 203,.type SL.s2742458400755230247x6],ns:=202,qualname:=a66 },slots:=#[none,none,some (.str a66 393),some (.str a66 401),some (.builtin SL.s11443829558043349243x14),some (.bool true)] }
noncomputable def o_250:Params→Obj:=fun P=>{ cls:=.type SL.s14755015743595814543x17,data:=.fields #[.str a33 433,.ref 203,.builtin SL.s6511155373996960695x17,.builtin SL.s12411053484034534018x21] }
noncomputable def o_251:Params→Obj:=fun P=>{ cls:=.type SL.s14755015743595814543x17,data:=.fields #[.str a2 435,.ref 203,.builtin SL.s10220274742760427390x26,.none] }
noncomputable def o_252:Params→Obj:=fun P=>{ cls:=.type SL.s4290257624100764138x5,data:=.fields #[.ref 203,.ref 203,.ref 203] }
noncomputable def o_253:Params→Obj:=fun P=>{ cls:=.type SL.s11030030927630378310x26,data:=.fields #[.builtin SL.s4860613602091757760x24,.ref 203] }
noncomputable def o_256:Params→Obj:=fun P=>{ cls:=.type SL.s2766695959194262286x5,data:=.seq #[] }
noncomputable def o_257:Params→Obj:=fun P=>{ cls:=.type SL.s11030030927630378310x26,data:=.fields #[.builtin SL.s10062305145149207511x16,.type SL.s17162191345867700912x4] }
noncomputable def o_258:Params→Obj:=fun P=>{ cls:=.type SL.s14018661285674007319x4,data:=Data.dict #[{ hash:=PyData.keyHash P a10,key:=.str a10 447,val:=.str a100 391 },{ hash:=PyData.keyHash P a101,key:=.str a101 449,val:=.str a79 448 },{ hash:=PyData.keyHash P a12,key:=.str a12 451,val:=.int 101 450 },{ hash:=PyData.keyHash P a13,key:=.str a13 460,val:=.ref 221 },{ hash:=PyData.keyHash P a146,key:=.str a146 469,val:=.ref 228 },{ hash:=PyData.keyHash P a7,key:=.str a7 479,val:=.ref 235 },{ hash:=PyData.keyHash P a3,key:=.str a3 486,val:=.ref 242 },{ hash:=PyData.keyHash P a14,key:=.str a14 490,val:=.ref 243 }] 8 }
noncomputable def o_259:Params→Obj:=fun P=>{ cls:=.type SL.s2766695959194262286x5,data:=.seq #[] }
noncomputable def o_260:Params→Obj:=fun P=>{ cls:=.none,data:=.fields #[.int 103 0,.int 4 0,.ref 220,.int 108 0,.int 4 0,.ref 227,.int 121 0,.int 4 0,.ref 234,.int 127 0,.int 4 0,.ref 241] }
noncomputable def o_261:Params→Obj:=fun P=>{ cls:=.type SL.s5856160107412720595x4,data:=.fields #[.str a79 442,.str a79 443,.str a1 444,.int 101 0,.int 0 0,.int 0 0,.int 0 0,.int 0 0,.ref 211,.bool false,.int 181 0,.ref 212,.none,.none,.none,.none,.int 445 0,.int 101 0,.str a1 446] }
noncomputable def o_262:Params→Obj:=fun P=>{ cls:=.type SL.s658472552662922059x5,slots:=#[some (.ref 213),some (.ref 3),some (.ref 210),none,some (.str a100 391),none,some (.ref 0)] }
noncomputable def o_263:Params→Obj:=fun P=>{ cls:=.type SL.s2766695959194262286x5,data:=.seq #[] }
noncomputable def o_264:Params→Obj:=fun P=>{ cls:=.none,data:=.fields #[] }
noncomputable def o_265:Params→Obj:=fun P=>{ cls:=.type SL.s2766695959194262286x5,data:=.seq #[.str a5 455,.str a16 456,.str a97 457] }
noncomputable def o_266:Params→Obj:=fun P=>{ cls:=.type SL.s2766695959194262286x5,data:=.seq #[] }
noncomputable def o_267:Params→Obj:=fun P=>{ cls:=.none,data:=.func fd36 }
noncomputable def o_268:Params→Obj:=fun P=>{ cls:=.type SL.s5856160107412720595x4,data:=.fields #[.str a13 452,.str a138 453,.str a1 454,.int 103 0,.int 3 0,.int 0 0,.int 0 0,.int 3 0,.ref 215,.bool true,.int 181 0,.ref 216,.none,.ref 217,.ref 218,.ref 219,.int 458 0,.int 103 0,.str a1 459] }
noncomputable def o_269:Params→Obj:=fun P=>{ cls:=.type SL.s7174869446012820540x8,data:=.func fd37 }
noncomputable def o_270:Params→Obj:=fun P=>{ cls:=.type SL.s2766695959194262286x5,data:=.seq #[] }
noncomputable def o_271:Params→Obj:=fun P=>{ cls:=.none,data:=.fields #[] }
noncomputable def o_272:Params→Obj:=fun P=>{ cls:=.type SL.s2766695959194262286x5,data:=.seq #[.str a5 464,.str a29 465,.str a90 466] }
noncomputable def o_273:Params→Obj:=fun P=>{ cls:=.type SL.s2766695959194262286x5,data:=.seq #[] }
noncomputable def o_274:Params→Obj:=fun P=>{ cls:=.none,data:=.func fd38 }
noncomputable def o_275:Params→Obj:=fun P=>{ cls:=.type SL.s5856160107412720595x4,data:=.fields #[.str a146 461,.str a147 462,.str a1 463,.int 108 0,.int 1 0,.int 0 0,.int 0 0,.int 3 0,.ref 222,.bool true,.int 181 0,.ref 223,.none,.ref 224,.ref 225,.ref 226,.int 467 0,.int 108 0,.str a1 468] }
noncomputable def o_276:Params→Obj:=fun P=>{ cls:=.type SL.s7174869446012820540x8,data:=.func fd39 }
noncomputable def o_277:Params→Obj:=fun P=>{ cls:=.type SL.s2766695959194262286x5,data:=.seq #[] }
noncomputable def o_278:Params→Obj:=fun P=>{ cls:=.none,data:=.fields #[] }
noncomputable def o_279:Params→Obj:=fun P=>{ cls:=.type SL.s2766695959194262286x5,data:=.seq #[.str a5 473,.str a28 474,.str a29 475,.str a30 476] }
noncomputable def o_280:Params→Obj:=fun P=>{ cls:=.type SL.s2766695959194262286x5,data:=.seq #[] }
noncomputable def o_281:Params→Obj:=fun P=>{ cls:=.none,data:=.func fd40 }
noncomputable def o_282:Params→Obj:=fun P=>{ cls:=.type SL.s5856160107412720595x4,data:=.fields #[.str a7 470,.str a174 471,.str a1 472,.int 121 0,.int 2 0,.int 0 0,.int 0 0,.int 3 0,.ref 229,.bool true,.int 181 0,.ref 230,.none,.ref 231,.ref 232,.ref 233,.int 477 0,.int 121 0,.str a1 478] }
noncomputable def o_283:Params→Obj:=fun P=>{ cls:=.type SL.s7174869446012820540x8,data:=.func fd41 }
noncomputable def o_284:Params→Obj:=fun P=>{ cls:=.type SL.s2766695959194262286x5,data:=.seq #[] }
noncomputable def o_285:Params→Obj:=fun P=>{ cls:=.none,data:=.fields #[] }
noncomputable def o_286:Params→Obj:=fun P=>{ cls:=.type SL.s2766695959194262286x5,data:=.seq #[.str a5 483] }
noncomputable def o_287:Params→Obj:=fun P=>{ cls:=.type SL.s2766695959194262286x5,data:=.seq #[] }
noncomputable def o_288:Params→Obj:=fun P=>{ cls:=.none,data:=.func fd42 }
noncomputable def o_289:Params→Obj:=fun P=>{ cls:=.type SL.s5856160107412720595x4,data:=.fields #[.str a3 480,.str a67 481,.str a1 482,.int 127 0,.int 1 0,.int 0 0,.int 0 0,.int 3 0,.ref 236,.bool true,.int 181 0,.ref 237,.none,.ref 238,.ref 239,.ref 240,.int 484 0,.int 127 0,.str a1 485] }
noncomputable def o_290:Params→Obj:=fun P=>{ cls:=.type SL.s7174869446012820540x8,data:=.func fd43 }
noncomputable def o_291:Params→Obj:=fun P=>{ cls:=.type SL.s2766695959194262286x5,data:=.seq #[.str a97 487,.str a16 488,.str a59 489] }
noncomputable def o_292:Params→Obj:=fun P=>{ cls:=.type SL.s14018661285674007319x4,data:=Data.dict #[{ hash:=PyData.keyHash P a10,key:=.str a10 447,val:=.str a100 391 },{ hash:=PyData.keyHash P a12,key:=.str a12 451,val:=.int 101 450 },{ hash:=PyData.keyHash P a13,key:=.str a13 460,val:=.ref 221 },{ hash:=PyData.keyHash P a146,key:=.str a146 469,val:=.ref 228 },{ hash:=PyData.keyHash P a7,key:=.str a7 479,val:=.ref 235 },{ hash:=PyData.keyHash P a3,key:=.str a3 486,val:=.ref 242 },{ hash:=PyData.keyHash P a14,key:=.str a14 490,val:=.ref 243 },{ hash:=PyData.keyHash P a33,key:=.str a33 492,val:=.ref 246 },{ hash:=PyData.keyHash P a2,key:=.str a2 494,val:=.ref 247 },{ hash:=PyData.keyHash P a15,key:=.str a15 495,val:=.none }] 4 }
noncomputable def o_293:Params→Obj:=fun P=>{ cls:=.type SL.s17162191345867700912x4,data:=Data.cls { name:=a79,bases:=[.type SL.s2742458400755230247x6],mro:=[.ref 245,.type SL.s2742458400755230247x6],ns:=244,qualname:=a79 },slots:=#[none,none,some (.str a79 440),some (.str a79 448),some (.builtin SL.s11443829558043349243x14),some (.bool true)] }
noncomputable def o_294:Params→Obj:=fun P=>{ cls:=.type SL.s14755015743595814543x17,data:=.fields #[.str a33 491,.ref 245,.builtin SL.s6511155373996960695x17,.builtin SL.s12411053484034534018x21] }
noncomputable def o_295:Params→Obj:=fun P=>{ cls:=.type SL.s14755015743595814543x17,data:=.fields #[.str a2 493,.ref 245,.builtin SL.s10220274742760427390x26,.none] }
noncomputable def o_296:Params→Obj:=fun P=>{ cls:=.type SL.s4290257624100764138x5,data:=.fields #[.ref 245,.ref 245,.ref 245] }
noncomputable def o_297:Params→Obj:=fun P=>{ cls:=.type SL.s11030030927630378310x26,data:=.fields #[.builtin SL.s4860613602091757760x24,.ref 245] }
noncomputable def o_298:Params→Obj:=fun P=>{ cls:=.type SL.s2766695959194262286x5,data:=.seq #[] }
noncomputable def o_299:Params→Obj:=fun P=>{ cls:=.none,data:=.fields #[] }
noncomputable def o_300:Params→Obj:=fun P=>{ cls:=.type SL.s2766695959194262286x5,data:=.seq #[.str a63 501,.str a64 502,.str a59 503] }
noncomputable def o_301:Params→Obj:=fun P=>{ cls:=.type SL.s2766695959194262286x5,data:=.seq #[] }
noncomputable def o_302:Params→Obj:=fun P=>{ cls:=.none,data:=.func fd44 }
noncomputable def o_303:Params→Obj:=fun P=>{ cls:=.type SL.s5856160107412720595x4,data:=.fields #[.str a62 498,.str a62 499,.str a1 500,.int 133 0,.int 1 0,.int 0 0,.int 0 0,.int 3 0,.ref 250,.bool true,.int 181 0,.ref 251,.none,.ref 252,.ref 253,.ref 254,.int 504 0,.int 133 0,.str a1 505] }
noncomputable def o_304:Params→Obj:=fun P=>{ cls:=.type SL.s7174869446012820540x8,data:=.func fd45 }
noncomputable def o_305:Params→Obj:=fun P=>{ cls:=.type SL.s2766695959194262286x5,data:=.seq #[] }
noncomputable def o_306:Params→Obj:=fun P=>{ cls:=.none,data:=.fields #[] }
noncomputable def o_307:Params→Obj:=fun P=>{ cls:=.type SL.s2766695959194262286x5,data:=.seq #[.str a19 510,.str a103 511,.str a63 512,.str a104 513,.str a48 514,.str a49 515] }
noncomputable def o_308:Params→Obj:=fun P=>{ cls:=.type SL.s2766695959194262286x5,data:=.seq #[] }
noncomputable def o_309:Params→Obj:=fun P=>{ cls:=.none,data:=.func fd46 }
noncomputable def o_310:Params→Obj:=fun P=>{ cls:=.type SL.s5856160107412720595x4,data:=.fields #[.str a80 507,.str a80 508,.str a1 509,.int 139 0,.int 1 0,.int 0 0,.int 0 0,.int 3 0,.ref 257,.bool true,.int 181 0,.ref 258,.none,.ref 259,.ref 260,.ref 261,.int 516 0,.int 139 0,.str a1 517] }
noncomputable def o_311:Params→Obj:=fun P=>{ cls:=.type SL.s7174869446012820540x8,data:=.func fd47 }
noncomputable def o_312:Params→Obj:=fun P=>{ cls:=.type SL.s14018661285674007319x4,data:=Data.dict #[{ hash:=PyData.keyHash P a68,key:=.str a68 165,val:=.str a61 591 },{ hash:=PyData.keyHash P a15,key:=.str a15 166,val:=.none },{ hash:=PyData.keyHash P a69,key:=.str a69 167,val:=.none },{ hash:=PyData.keyHash P a70,key:=.str a70 168,val:=.builtin SL.s7097527257260152453x26 },{ hash:=PyData.keyHash P a71,key:=.str a71 169,val:=.none },{ hash:=PyData.keyHash P a72,key:=.str a72 170,val:=.ref 6 },{ hash:=PyData.keyHash P a73,key:=.str a73 171,val:=.ref 4 },{ hash:=PyData.keyHash P a74,key:=.str a74 173,val:=.str a1 172 },{ hash:=PyData.keyHash P a75,key:=.str a75 174,val:=.none },{ hash:=PyData.keyHash P a26,key:=.str a26 193,val:=.ref 21 },{ hash:=PyData.keyHash P a76,key:=.str a76 215,val:=.ref 31 },{ hash:=PyData.keyHash P a39,key:=.str a39 242,val:=.ref 51 },{ hash:=PyData.keyHash P a77,key:=.str a77 305,val:=.ref 98 },{ hash:=PyData.keyHash P a78,key:=.str a78 390,val:=.ref 168 },{ hash:=PyData.keyHash P a66,key:=.str a66 439,val:=.ref 203 },{ hash:=PyData.keyHash P a79,key:=.str a79 497,val:=.ref 245 },{ hash:=PyData.keyHash P a62,key:=.str a62 506,val:=.ref 256 },{ hash:=PyData.keyHash P a80,key:=.str a80 518,val:=.ref 263 },{ hash:=PyData.keyHash P a81,key:=.str a81 524,val:=.ref 268 },{ hash:=PyData.keyHash P a9,key:=.str a9 536,val:=.ref 275 },{ hash:=PyData.keyHash P a82,key:=.str a82 548,val:=.ref 282 },{ hash:=PyData.keyHash P a83,key:=.str a83 590,val:=.ref 306 },{ hash:=PyData.keyHash P a84,key:=.str a84 594,val:=.int 3 593 },{ hash:=PyData.keyHash P a85,key:=.str a85 596,val:=.int 257 595 },{ hash:=PyData.keyHash P a86,key:=.str a86 598,val:=.int 256 597 },{ hash:=PyData.keyHash P a87,key:=.str a87 600,val:=.int 265 599 }] 26 }
noncomputable def o_313:Params→Obj:=fun P=>{ cls:=.none,data:=.fields #[.int 1 0,.int 0 0,.ref 20,.int 5 0,.int 0 0,.ref 27,.int 7 0,.int 0 0,.ref 40,.int 13 0,.int 0 0,.ref 59,.int 33 0,.int 0 0,.ref 108,.int 81 0,.int 0 0,.ref 178,.int 101 0,.int 0 0,.ref 213,.int 133 0,.int 0 0,.ref 255,.int 139 0,.int 0 0,.ref 262,.int 154 0,.int 0 0,.ref 267,.int 156 0,.int 0 0,.ref 274,.int 166 0,.int 0 0,.ref 281,.int 175 0,.int 0 0,.ref 288] }
noncomputable def o_314:Params→Obj:=fun P=>{ cls:=.type SL.s2766695959194262286x5,data:=.seq #[] }
noncomputable def o_315:Params→Obj:=fun P=>{ cls:=.none,data:=.fields #[] }
noncomputable def o_316:Params→Obj:=fun P=>{ cls:=.none,data:=.func fd48 }
noncomputable def o_317:Params→Obj:=fun P=>{ cls:=.type SL.s5856160107412720595x4,data:=.fields #[.str a81 519,.str a81 520,.str a1 521,.int 154 0,.int 1 0,.int 0 0,.int 0 0,.int 3 0,.ref 264,.bool true,.int 181 0,.ref 265,.none,.none,.none,.ref 266,.int 522 0,.int 154 0,.str a1 523] }
noncomputable def o_318:Params→Obj:=fun P=>{ cls:=.type SL.s7174869446012820540x8,data:=.func fd49 }
noncomputable def o_319:Params→Obj:=fun P=>{ cls:=.type SL.s2766695959194262286x5,data:=.seq #[] }
noncomputable def o_320:Params→Obj:=fun P=>{ cls:=.none,data:=.fields #[] }
noncomputable def o_321:Params→Obj:=fun P=>{ cls:=.type SL.s2766695959194262286x5,data:=.seq #[.str a103 528,.str a153 529,.str a125 530,.str a119 531,.str a35 532,.str a104 533] }
noncomputable def o_322:Params→Obj:=fun P=>{ cls:=.type SL.s2766695959194262286x5,data:=.seq #[] }
noncomputable def o_323:Params→Obj:=fun P=>{ cls:=.none,data:=.func fd50 }
noncomputable def o_324:Params→Obj:=fun P=>{ cls:=.type SL.s5856160107412720595x4,data:=.fields #[.str a9 525,.str a9 526,.str a1 527,.int 156 0,.int 1 0,.int 0 0,.int 0 0,.int 3 0,.ref 269,.bool true,.int 181 0,.ref 270,.none,.ref 271,.ref 272,.ref 273,.int 534 0,.int 156 0,.str a1 535] }
noncomputable def o_325:Params→Obj:=fun P=>{ cls:=.type SL.s7174869446012820540x8,data:=.func fd51 }
noncomputable def o_326:Params→Obj:=fun P=>{ cls:=.type SL.s2766695959194262286x5,data:=.seq #[] }
noncomputable def o_327:Params→Obj:=fun P=>{ cls:=.none,data:=.fields #[] }
noncomputable def o_328:Params→Obj:=fun P=>{ cls:=.type SL.s2766695959194262286x5,data:=.seq #[.str a103 540,.str a90 541,.str a55 542,.str a145 543,.str a35 544,.str a104 545] }
noncomputable def o_329:Params→Obj:=fun P=>{ cls:=.type SL.s2766695959194262286x5,data:=.seq #[] }
noncomputable def o_330:Params→Obj:=fun P=>{ cls:=.none,data:=.func fd52 }
noncomputable def o_331:Params→Obj:=fun P=>{ cls:=.type SL.s5856160107412720595x4,data:=.fields #[.str a82 537,.str a82 538,.str a1 539,.int 166 0,.int 1 0,.int 0 0,.int 0 0,.int 3 0,.ref 276,.bool true,.int 181 0,.ref 277,.none,.ref 278,.ref 279,.ref 280,.int 546 0,.int 166 0,.str a1 547] }
noncomputable def o_332:Params→Obj:=fun P=>{ cls:=.type SL.s7174869446012820540x8,data:=.func fd53 }
noncomputable def o_333:Params→Obj:=fun P=>{ cls:=.type SL.s2766695959194262286x5,data:=.seq #[] }
noncomputable def o_334:Params→Obj:=fun P=>{ cls:=.type SL.s11030030927630378310x26,data:=.fields #[.builtin SL.s10062305145149207511x16,.type SL.s17162191345867700912x4] }
noncomputable def o_335:Params→Obj:=fun P=>{ cls:=.type SL.s14018661285674007319x4,data:=Data.dict #[{ hash:=PyData.keyHash P a10,key:=.str a10 556,val:=.str a100 391 },{ hash:=PyData.keyHash P a101,key:=.str a101 558,val:=.str a83 557 },{ hash:=PyData.keyHash P a12,key:=.str a12 560,val:=.int 175 559 },{ hash:=PyData.keyHash P a13,key:=.str a13 570,val:=.ref 296 },{ hash:=PyData.keyHash P a104,key:=.str a104 580,val:=.ref 303 },{ hash:=PyData.keyHash P a14,key:=.str a14 583,val:=.ref 304 }] 6 }
noncomputable def o_336:Params→Obj:=fun P=>{ cls:=.type SL.s2766695959194262286x5,data:=.seq #[] }
noncomputable def o_337:Params→Obj:=fun P=>{ cls:=.none,data:=.fields #[.int 177 0,.int 4 0,.ref 295,.int 186 0,.int 4 0,.ref 302] }
noncomputable def o_338:Params→Obj:=fun P=>{ cls:=.type SL.s5856160107412720595x4,data:=.fields #[.str a83 551,.str a83 552,.str a1 553,.int 175 0,.int 0 0,.int 0 0,.int 0 0,.int 0 0,.ref 286,.bool false,.int 181 0,.ref 287,.none,.none,.none,.none,.int 554 0,.int 175 0,.str a1 555] }
noncomputable def o_339:Params→Obj:=fun P=>{ cls:=.type SL.s658472552662922059x5,slots:=#[some (.ref 288),some (.ref 3),some (.ref 285),none,some (.str a100 391),none,some (.ref 0)] }
noncomputable def o_340:Params→Obj:=fun P=>{ cls:=.type SL.s2766695959194262286x5,data:=.seq #[] }
noncomputable def o_341:Params→Obj:=fun P=>{ cls:=.none,data:=.fields #[] }
noncomputable def o_342:Params→Obj:=fun P=>{ cls:=.type SL.s2766695959194262286x5,data:=.seq #[.str a5 564,.str a103 565,.str a104 566,.str a105 567] }
noncomputable def o_343:Params→Obj:=fun P=>{ cls:=.type SL.s2766695959194262286x5,data:=.seq #[] }
noncomputable def o_344:Params→Obj:=fun P=>{ cls:=.none,data:=.func fd54 }
noncomputable def o_345:Params→Obj:=fun P=>{ cls:=.type SL.s5856160107412720595x4,data:=.fields #[.str a13 561,.str a106 562,.str a1 563,.int 177 0,.int 2 0,.int 0 0,.int 0 0,.int 3 0,.ref 290,.bool true,.int 181 0,.ref 291,.none,.ref 292,.ref 293,.ref 294,.int 568 0,.int 177 0,.str a1 569] }
noncomputable def o_346:Params→Obj:=fun P=>{ cls:=.type SL.s7174869446012820540x8,data:=.func fd55 }
noncomputable def o_347:Params→Obj:=fun P=>{ cls:=.type SL.s2766695959194262286x5,data:=.seq #[] }
noncomputable def o_348:Params→Obj:=fun P=>{ cls:=.none,data:=.fields #[] }
noncomputable def o_349:Params→Obj:=fun P=>{ cls:=.type SL.s2766695959194262286x5,data:=.seq #[.str a5 574,.str a111 575,.str a125 576,.str a35 577] }
noncomputable def o_350:Params→Obj:=fun P=>{ cls:=.type SL.s2766695959194262286x5,data:=.seq #[] }
noncomputable def o_351:Params→Obj:=fun P=>{ cls:=.none,data:=.func fd56 }
noncomputable def o_352:Params→Obj:=fun P=>{ cls:=.type SL.s5856160107412720595x4,data:=.fields #[.str a104 571,.str a177 572,.str a1 573,.int 186 0,.int 2 0,.int 0 0,.int 0 0,.int 3 0,.ref 297,.bool true,.int 181 0,.ref 298,.none,.ref 299,.ref 300,.ref 301,.int 578 0,.int 186 0,.str a1 579] }
noncomputable def o_353:Params→Obj:=fun P=>{ cls:=.type SL.s7174869446012820540x8,data:=.func fd57 }
noncomputable def o_354:Params→Obj:=fun P=>{ cls:=.type SL.s2766695959194262286x5,data:=.seq #[.str a55 581,.str a108 582] }
noncomputable def o_355:Params→Obj:=fun P=>{ cls:=.type SL.s14018661285674007319x4,data:=Data.dict #[{ hash:=PyData.keyHash P a10,key:=.str a10 556,val:=.str a100 391 },{ hash:=PyData.keyHash P a12,key:=.str a12 560,val:=.int 175 559 },{ hash:=PyData.keyHash P a13,key:=.str a13 570,val:=.ref 296 },{ hash:=PyData.keyHash P a104,key:=.str a104 580,val:=.ref 303 },{ hash:=PyData.keyHash P a14,key:=.str a14 583,val:=.ref 304 },{ hash:=PyData.keyHash P a33,key:=.str a33 585,val:=.ref 307 },{ hash:=PyData.keyHash P a2,key:=.str a2 587,val:=.ref 308 },{ hash:=PyData.keyHash P a15,key:=.str a15 588,val:=.none }] 4 }
noncomputable def o_356:Params→Obj:=fun P=>{ cls:=.type SL.s17162191345867700912x4,data:=Data.cls { name:=a83,bases:=[.type SL.s2742458400755230247x6],mro:=[.ref 306,.type SL.s2742458400755230247x6],ns:=305,qualname:=a83 },slots:=#[none,none,some (.str a83 549),some (.str a83 557),some (.builtin SL.s11443829558043349243x14),some (.bool true)] }
noncomputable def o_357:Params→Obj:=fun P=>{ cls:=.type SL.s14755015743595814543x17,data:=.fields #[.str a33 584,.ref 306,.builtin SL.s6511155373996960695x17,.builtin SL.s12411053484034534018x21] }
noncomputable def o_358:Params→Obj:=fun P=>{ cls:=.type SL.s14755015743595814543x17,data:=.fields #[.str a2 586,.ref 306,.builtin SL.s10220274742760427390x26,.none] }
noncomputable def o_359:Params→Obj:=fun P=>{ cls:=.type SL.s4290257624100764138x5,data:=.fields #[.ref 306,.ref 306,.ref 306] }
noncomputable def o_360:Params→Obj:=fun P=>{ cls:=.type SL.s11030030927630378310x26,data:=.fields #[.builtin SL.s4860613602091757760x24,.ref 306] }
noncomputable def o_363:Params→Obj:=fun P=>{ cls:=.type SL.s2766695959194262286x5,data:=.seq #[] }
noncomputable def o_364:Params→Obj:=fun P=>{ cls:=.none,data:=.fields #[] }
noncomputable def o_365:Params→Obj:=fun P=>{ cls:=.type SL.s2766695959194262286x5,data:=.seq #[.str a16 610,.str a59 611,.str a60 612,.str a37 613,.str a6 614] }
noncomputable def o_366:Params→Obj:=fun P=>{ cls:=.type SL.s2766695959194262286x5,data:=.seq #[] }
noncomputable def o_367:Params→Obj:=fun P=>{ cls:=.none,data:=.func fd58 }
noncomputable def o_368:Params→Obj:=fun P=>{ cls:=.type SL.s5856160107412720595x4,data:=.fields #[.str a58 607,.str a58 608,.str a1 609,.int 201 0,.int 4 0,.int 0 0,.int 0 0,.int 3 0,.ref 311,.bool true,.int 181 0,.ref 312,.none,.ref 313,.ref 314,.ref 315,.int 615 0,.int 201 0,.str a1 616] }
noncomputable def o_369:Params→Obj:=fun P=>{ cls:=.type SL.s7174869446012820540x8,data:=.func fd59 }
noncomputable def o_370:Params→Obj:=fun P=>{ cls:=.type SL.s2766695959194262286x5,data:=.seq #[] }
noncomputable def o_371:Params→Obj:=fun P=>{ cls:=.none,data:=.fields #[] }
noncomputable def o_372:Params→Obj:=fun P=>{ cls:=.type SL.s2766695959194262286x5,data:=.seq #[.str a16 621,.str a97 622,.str a151 623,.str a17 624,.str a37 625,.str a64 626,.str a59 627,.str a35 628] }
noncomputable def o_373:Params→Obj:=fun P=>{ cls:=.type SL.s2766695959194262286x5,data:=.seq #[] }
noncomputable def o_374:Params→Obj:=fun P=>{ cls:=.none,data:=.func fd60 }
noncomputable def o_375:Params→Obj:=fun P=>{ cls:=.type SL.s5856160107412720595x4,data:=.fields #[.str a0 618,.str a0 619,.str a1 620,.int 206 0,.int 4 0,.int 0 0,.int 0 0,.int 3 0,.ref 318,.bool true,.int 181 0,.ref 319,.none,.ref 320,.ref 321,.ref 322,.int 629 0,.int 206 0,.str a1 630] }
noncomputable def o_376:Params→Obj:=fun P=>{ cls:=.type SL.s7174869446012820540x8,data:=.func fd61 }
noncomputable def o_377:Params→Obj:=fun P=>{ cls:=.type SL.s2766695959194262286x5,data:=.seq #[] }
noncomputable def o_378:Params→Obj:=fun P=>{ cls:=.none,data:=.fields #[] }
noncomputable def o_379:Params→Obj:=fun P=>{ cls:=.type SL.s2766695959194262286x5,data:=.seq #[.str a16 635,.str a97 636] }
noncomputable def o_380:Params→Obj:=fun P=>{ cls:=.type SL.s2766695959194262286x5,data:=.seq #[] }
noncomputable def o_381:Params→Obj:=fun P=>{ cls:=.none,data:=.func fd62 }
noncomputable def o_382:Params→Obj:=fun P=>{ cls:=.type SL.s5856160107412720595x4,data:=.fields #[.str a130 632,.str a130 633,.str a1 634,.int 216 0,.int 2 0,.int 0 0,.int 0 0,.int 3 0,.ref 325,.bool true,.int 181 0,.ref 326,.none,.ref 327,.ref 328,.ref 329,.int 637 0,.int 216 0,.str a1 638] }
noncomputable def o_383:Params→Obj:=fun P=>{ cls:=.type SL.s7174869446012820540x8,data:=.func fd63 }
noncomputable def o_384:Params→Obj:=fun P=>{ cls:=.type SL.s2766695959194262286x5,data:=.seq #[] }
noncomputable def o_385:Params→Obj:=fun P=>{ cls:=.none,data:=.fields #[] }
noncomputable def o_386:Params→Obj:=fun P=>{ cls:=.type SL.s2766695959194262286x5,data:=.seq #[.str a16 643,.str a17 644,.str a18 645,.str a139 646,.str a97 647,.str a35 648,.str a36 649,.str a141 650,.str a59 651] }
noncomputable def o_387:Params→Obj:=fun P=>{ cls:=.type SL.s2766695959194262286x5,data:=.seq #[] }
noncomputable def o_388:Params→Obj:=fun P=>{ cls:=.none,data:=.func fd64 }
noncomputable def o_389:Params→Obj:=fun P=>{ cls:=.type SL.s5856160107412720595x4,data:=.fields #[.str a131 640,.str a131 641,.str a1 642,.int 218 0,.int 2 0,.int 0 0,.int 0 0,.int 3 0,.ref 332,.bool true,.int 181 0,.ref 333,.none,.ref 334,.ref 335,.ref 336,.int 652 0,.int 218 0,.str a1 653] }
noncomputable def o_390:Params→Obj:=fun P=>{ cls:=.type SL.s7174869446012820540x8,data:=.func fd65 }
noncomputable def o_391:Params→Obj:=fun P=>{ cls:=.type SL.s2766695959194262286x5,data:=.seq #[] }
noncomputable def o_392:Params→Obj:=fun P=>{ cls:=.none,data:=.fields #[] }
noncomputable def o_393:Params→Obj:=fun P=>{ cls:=.type SL.s2766695959194262286x5,data:=.seq #[.str a124 658] }
noncomputable def o_394:Params→Obj:=fun P=>{ cls:=.type SL.s2766695959194262286x5,data:=.seq #[] }
noncomputable def o_395:Params→Obj:=fun P=>{ cls:=.none,data:=.func fd66 }
noncomputable def o_396:Params→Obj:=fun P=>{ cls:=.type SL.s5856160107412720595x4,data:=.fields #[.str a91 655,.str a91 656,.str a1 657,.int 233 0,.int 1 0,.int 0 0,.int 0 0,.int 3 0,.ref 339,.bool true,.int 181 0,.ref 340,.none,.ref 341,.ref 342,.ref 343,.int 659 0,.int 233 0,.str a1 660] }
noncomputable def o_397:Params→Obj:=fun P=>{ cls:=.type SL.s7174869446012820540x8,data:=.func fd67 }
noncomputable def o_398:Params→Obj:=fun P=>{ cls:=.type SL.s2766695959194262286x5,data:=.seq #[] }
noncomputable def o_399:Params→Obj:=fun P=>{ cls:=.none,data:=.fields #[] }
noncomputable def o_400:Params→Obj:=fun P=>{ cls:=.type SL.s2766695959194262286x5,data:=.seq #[.str a18 665,.str a21 666,.str a22 667,.str a124 668] }
noncomputable def o_401:Params→Obj:=fun P=>{ cls:=.type SL.s2766695959194262286x5,data:=.seq #[] }
noncomputable def o_402:Params→Obj:=fun P=>{ cls:=.none,data:=.func fd68 }
noncomputable def o_403:Params→Obj:=fun P=>{ cls:=.type SL.s5856160107412720595x4,data:=.fields #[.str a123 662,.str a123 663,.str a1 664,.int 237 0,.int 1 0,.int 0 0,.int 0 0,.int 3 0,.ref 346,.bool true,.int 181 0,.ref 347,.none,.ref 348,.ref 349,.ref 350,.int 669 0,.int 237 0,.str a1 670] }
noncomputable def o_404:Params→Obj:=fun P=>{ cls:=.type SL.s7174869446012820540x8,data:=.func fd69 }
noncomputable def o_405:Params→Obj:=fun P=>{ cls:=.type SL.s2766695959194262286x5,data:=.seq #[] }
noncomputable def o_406:Params→Obj:=fun P=>{ cls:=.none,data:=.fields #[] }
noncomputable def o_407:Params→Obj:=fun P=>{ cls:=.type SL.s2766695959194262286x5,data:=.seq #[.str a7 675,.str a29 676] }
noncomputable def o_408:Params→Obj:=fun P=>{ cls:=.type SL.s2766695959194262286x5,data:=.seq #[] }
noncomputable def o_409:Params→Obj:=fun P=>{ cls:=.none,data:=.func fd70 }
noncomputable def o_410:Params→Obj:=fun P=>{ cls:=.type SL.s5856160107412720595x4,data:=.fields #[.str a132 672,.str a132 673,.str a1 674,.int 246 0,.int 2 0,.int 0 0,.int 0 0,.int 3 0,.ref 353,.bool true,.int 181 0,.ref 354,.none,.ref 355,.ref 356,.ref 357,.int 677 0,.int 246 0,.str a1 678] }
noncomputable def o_411:Params→Obj:=fun P=>{ cls:=.type SL.s7174869446012820540x8,data:=.func fd71 }
noncomputable def o_412:Params→Obj:=fun P=>{ cls:=.type SL.s2766695959194262286x5,data:=.seq #[] }
noncomputable def o_413:Params→Obj:=fun P=>{ cls:=.none,data:=.fields #[] }
noncomputable def o_414:Params→Obj:=fun P=>{ cls:=.type SL.s2766695959194262286x5,data:=.seq #[.str a7 683,.str a18 684,.str a21 685,.str a22 686,.str a124 687,.str a125 688,.str a35 689] }
noncomputable def o_415:Params→Obj:=fun P=>{ cls:=.type SL.s2766695959194262286x5,data:=.seq #[] }
noncomputable def o_416:Params→Obj:=fun P=>{ cls:=.none,data:=.func fd72 }
noncomputable def o_417:Params→Obj:=fun P=>{ cls:=.type SL.s5856160107412720595x4,data:=.fields #[.str a133 680,.str a133 681,.str a1 682,.int 248 0,.int 4 0,.int 0 0,.int 0 0,.int 3 0,.ref 360,.bool true,.int 181 0,.ref 361,.none,.ref 362,.ref 363,.ref 364,.int 690 0,.int 248 0,.str a1 691] }
noncomputable def o_418:Params→Obj:=fun P=>{ cls:=.type SL.s7174869446012820540x8,data:=.func fd73 }
noncomputable def o_419:Params→Obj:=fun P=>{ cls:=.type SL.s2766695959194262286x5,data:=.seq #[] }
noncomputable def o_420:Params→Obj:=fun P=>{ cls:=.none,data:=.fields #[] }
noncomputable def o_421:Params→Obj:=fun P=>{ cls:=.none,data:=.func fd74 }
noncomputable def o_422:Params→Obj:=fun P=>{ cls:=.type SL.s5856160107412720595x4,data:=.fields #[.str a117 693,.str a117 694,.str a1 695,.int 259 0,.int 2 0,.int 0 0,.int 0 0,.int 3 0,.ref 367,.bool true,.int 181 0,.ref 368,.none,.none,.none,.ref 369,.int 696 0,.int 259 0,.str a1 697] }
noncomputable def o_423:Params→Obj:=fun P=>{ cls:=.type SL.s7174869446012820540x8,data:=.func fd75 }
noncomputable def o_424:Params→Obj:=fun P=>{ cls:=.type SL.s2766695959194262286x5,data:=.seq #[.int 4096 699] }
noncomputable def o_425:Params→Obj:=fun P=>{ cls:=.type SL.s2766695959194262286x5,data:=.seq #[] }
noncomputable def o_426:Params→Obj:=fun P=>{ cls:=.none,data:=.fields #[] }
noncomputable def o_427:Params→Obj:=fun P=>{ cls:=.type SL.s2766695959194262286x5,data:=.seq #[.str a16 703,.str a17 704,.str a18 705,.str a19 706,.str a20 707,.str a21 708,.str a22 709,.str a23 710,.str a7 711] }
noncomputable def o_428:Params→Obj:=fun P=>{ cls:=.type SL.s2766695959194262286x5,data:=.seq #[] }
noncomputable def o_429:Params→Obj:=fun P=>{ cls:=.none,data:=.func fd76 }
noncomputable def o_430:Params→Obj:=fun P=>{ cls:=.type SL.s5856160107412720595x4,data:=.fields #[.str a134 700,.str a134 701,.str a1 702,.int 267 0,.int 2 0,.int 0 0,.int 0 0,.int 3 0,.ref 373,.bool true,.int 181 0,.ref 374,.none,.ref 375,.ref 376,.ref 377,.int 712 0,.int 267 0,.str a1 713] }
noncomputable def o_431:Params→Obj:=fun P=>{ cls:=.type SL.s7174869446012820540x8,data:=.func fd77 }
noncomputable def o_432:Params→Obj:=fun P=>{ cls:=.type SL.s2766695959194262286x5,data:=.seq #[] }
noncomputable def o_433:Params→Obj:=fun P=>{ cls:=.none,data:=.fields #[] }
noncomputable def o_434:Params→Obj:=fun P=>{ cls:=.type SL.s2766695959194262286x5,data:=.seq #[.str a111 718,.str a108 719,.str a103 720,.str a104 721,.str a30 722,.str a112 723,.str a35 724] }
noncomputable def o_435:Params→Obj:=fun P=>{ cls:=.type SL.s2766695959194262286x5,data:=.seq #[] }
noncomputable def o_436:Params→Obj:=fun P=>{ cls:=.none,data:=.func fd78 }
noncomputable def o_437:Params→Obj:=fun P=>{ cls:=.type SL.s5856160107412720595x4,data:=.fields #[.str a110 715,.str a110 716,.str a1 717,.int 278 0,.int 2 0,.int 0 0,.int 0 0,.int 3 0,.ref 380,.bool true,.int 181 0,.ref 381,.none,.ref 382,.ref 383,.ref 384,.int 725 0,.int 278 0,.str a1 726] }
noncomputable def o_438:Params→Obj:=fun P=>{ cls:=.type SL.s7174869446012820540x8,data:=.func fd79 }
noncomputable def o_439:Params→Obj:=fun P=>{ cls:=.type SL.s14018661285674007319x4,data:=Data.dict #[{ hash:=PyData.keyHash P a68,key:=.str a68 165,val:=.str a57 765 },{ hash:=PyData.keyHash P a15,key:=.str a15 166,val:=.none },{ hash:=PyData.keyHash P a69,key:=.str a69 167,val:=.none },{ hash:=PyData.keyHash P a70,key:=.str a70 168,val:=.builtin SL.s7097527257260152453x26 },{ hash:=PyData.keyHash P a71,key:=.str a71 169,val:=.none },{ hash:=PyData.keyHash P a72,key:=.str a72 170,val:=.ref 6 },{ hash:=PyData.keyHash P a73,key:=.str a73 171,val:=.ref 4 },{ hash:=PyData.keyHash P a74,key:=.str a74 173,val:=.str a1 172 },{ hash:=PyData.keyHash P a75,key:=.str a75 174,val:=.none },{ hash:=PyData.keyHash P a26,key:=.str a26 193,val:=.ref 21 },{ hash:=PyData.keyHash P a76,key:=.str a76 215,val:=.ref 31 },{ hash:=PyData.keyHash P a39,key:=.str a39 242,val:=.ref 51 },{ hash:=PyData.keyHash P a77,key:=.str a77 305,val:=.ref 98 },{ hash:=PyData.keyHash P a78,key:=.str a78 390,val:=.ref 168 },{ hash:=PyData.keyHash P a66,key:=.str a66 439,val:=.ref 203 },{ hash:=PyData.keyHash P a79,key:=.str a79 497,val:=.ref 245 },{ hash:=PyData.keyHash P a62,key:=.str a62 506,val:=.ref 256 },{ hash:=PyData.keyHash P a80,key:=.str a80 518,val:=.ref 263 },{ hash:=PyData.keyHash P a81,key:=.str a81 524,val:=.ref 268 },{ hash:=PyData.keyHash P a9,key:=.str a9 536,val:=.ref 275 },{ hash:=PyData.keyHash P a82,key:=.str a82 548,val:=.ref 282 },{ hash:=PyData.keyHash P a83,key:=.str a83 590,val:=.ref 306 },{ hash:=PyData.keyHash P a84,key:=.str a84 594,val:=.int 3 593 },{ hash:=PyData.keyHash P a85,key:=.str a85 596,val:=.int 257 595 },{ hash:=PyData.keyHash P a86,key:=.str a86 598,val:=.int 256 597 },{ hash:=PyData.keyHash P a87,key:=.str a87 600,val:=.int 265 599 },{ hash:=PyData.keyHash P a128,key:=.str a128 602,val:=.int 25 601 },{ hash:=PyData.keyHash P a129,key:=.str a129 604,val:=.int 16777215 603 },{ hash:=PyData.keyHash P a113,key:=.str a113 606,val:=.int 64 605 },{ hash:=PyData.keyHash P a58,key:=.str a58 617,val:=.ref 317 },{ hash:=PyData.keyHash P a0,key:=.str a0 631,val:=.ref 324 },{ hash:=PyData.keyHash P a130,key:=.str a130 639,val:=.ref 331 },{ hash:=PyData.keyHash P a131,key:=.str a131 654,val:=.ref 338 },{ hash:=PyData.keyHash P a91,key:=.str a91 661,val:=.ref 345 },{ hash:=PyData.keyHash P a123,key:=.str a123 671,val:=.ref 352 },{ hash:=PyData.keyHash P a132,key:=.str a132 679,val:=.ref 359 },{ hash:=PyData.keyHash P a133,key:=.str a133 692,val:=.ref 366 },{ hash:=PyData.keyHash P a117,key:=.str a117 698,val:=.ref 371 },{ hash:=PyData.keyHash P a134,key:=.str a134 714,val:=.ref 379 },{ hash:=PyData.keyHash P a110,key:=.str a110 727,val:=.ref 386 },{ hash:=PyData.keyHash P a116,key:=.str a116 735,val:=.ref 393 },{ hash:=PyData.keyHash P a34,key:=.str a34 746,val:=.ref 400 },{ hash:=PyData.keyHash P a127,key:=.str a127 764,val:=.ref 408 },{ hash:=PyData.keyHash P a135,key:=.str a135 775,val:=.ref 415 },{ hash:=PyData.keyHash P a136,key:=.str a136 781,val:=.ref 420 },{ hash:=PyData.keyHash P a51,key:=.str a51 791,val:=.ref 427 },{ hash:=PyData.keyHash P a45,key:=.str a45 797,val:=.ref 432 },{ hash:=PyData.keyHash P a137,key:=.str a137 803,val:=.ref 437 }] 48 }
noncomputable def o_440:Params→Obj:=fun P=>{ cls:=.none,data:=.fields #[.int 1 0,.int 0 0,.ref 20,.int 5 0,.int 0 0,.ref 27,.int 7 0,.int 0 0,.ref 40,.int 13 0,.int 0 0,.ref 59,.int 33 0,.int 0 0,.ref 108,.int 81 0,.int 0 0,.ref 178,.int 101 0,.int 0 0,.ref 213,.int 133 0,.int 0 0,.ref 255,.int 139 0,.int 0 0,.ref 262,.int 154 0,.int 0 0,.ref 267,.int 156 0,.int 0 0,.ref 274,.int 166 0,.int 0 0,.ref 281,.int 175 0,.int 0 0,.ref 288,.int 201 0,.int 0 0,.ref 316,.int 206 0,.int 0 0,.ref 323,.int 216 0,.int 0 0,.ref 330,.int 218 0,.int 0 0,.ref 337,.int 233 0,.int 0 0,.ref 344,.int 237 0,.int 0 0,.ref 351,.int 246 0,.int 0 0,.ref 358,.int 248 0,.int 0 0,.ref 365,.int 259 0,.int 0 0,.ref 370,.int 267 0,.int 0 0,.ref 378,.int 278 0,.int 0 0,.ref 385,.int 289 0,.int 0 0,.ref 392,.int 291 0,.int 0 0,.ref 399,.int 296 0,.int 0 0,.ref 407,.int 321 0,.int 0 0,.ref 414,.int 330 0,.int 0 0,.ref 419,.int 333 0,.int 0 0,.ref 426,.int 338 0,.int 0 0,.ref 431,.int 354 0,.int 0 0,.ref 436] }
noncomputable def o_441:Params→Obj:=fun P=>{ cls:=.type SL.s2766695959194262286x5,data:=.seq #[] }
noncomputable def o_442:Params→Obj:=fun P=>{ cls:=.none,data:=.fields #[] }
noncomputable def o_443:Params→Obj:=fun P=>{ cls:=.type SL.s2766695959194262286x5,data:=.seq #[.str a7 731,.str a28 732] }
noncomputable def o_444:Params→Obj:=fun P=>{ cls:=.type SL.s2766695959194262286x5,data:=.seq #[] }
noncomputable def o_445:Params→Obj:=fun P=>{ cls:=.none,data:=.func fd80 }
noncomputable def o_446:Params→Obj:=fun P=>{ cls:=.type SL.s5856160107412720595x4,data:=.fields #[.str a116 728,.str a116 729,.str a1 730,.int 289 0,.int 2 0,.int 0 0,.int 0 0,.int 3 0,.ref 387,.bool true,.int 181 0,.ref 388,.none,.ref 389,.ref 390,.ref 391,.int 733 0,.int 289 0,.str a1 734] }
noncomputable def o_447:Params→Obj:=fun P=>{ cls:=.type SL.s7174869446012820540x8,data:=.func fd81 }
noncomputable def o_448:Params→Obj:=fun P=>{ cls:=.type SL.s2766695959194262286x5,data:=.seq #[] }
noncomputable def o_449:Params→Obj:=fun P=>{ cls:=.none,data:=.fields #[] }
noncomputable def o_450:Params→Obj:=fun P=>{ cls:=.type SL.s2766695959194262286x5,data:=.seq #[.str a8 739,.str a35 740,.str a36 741,.str a37 742,.str a30 743] }
noncomputable def o_451:Params→Obj:=fun P=>{ cls:=.type SL.s2766695959194262286x5,data:=.seq #[] }
noncomputable def o_452:Params→Obj:=fun P=>{ cls:=.none,data:=.func fd82 }
noncomputable def o_453:Params→Obj:=fun P=>{ cls:=.type SL.s5856160107412720595x4,data:=.fields #[.str a34 736,.str a34 737,.str a1 738,.int 291 0,.int 4 0,.int 0 0,.int 0 0,.int 3 0,.ref 394,.bool true,.int 181 0,.ref 395,.none,.ref 396,.ref 397,.ref 398,.int 744 0,.int 291 0,.str a1 745] }
noncomputable def o_454:Params→Obj:=fun P=>{ cls:=.type SL.s7174869446012820540x8,data:=.func fd83 }
noncomputable def o_455:Params→Obj:=fun P=>{ cls:=.type SL.s2766695959194262286x5,data:=.seq #[.int 65536 747] }
noncomputable def o_456:Params→Obj:=fun P=>{ cls:=.type SL.s2766695959194262286x5,data:=.seq #[] }
noncomputable def o_457:Params→Obj:=fun P=>{ cls:=.none,data:=.fields #[] }
noncomputable def o_458:Params→Obj:=fun P=>{ cls:=.type SL.s2766695959194262286x5,data:=.seq #[.str a16 751,.str a37 752,.str a111 753,.str a21 754,.str a103 755,.str a22 756,.str a7 757,.str a8 758,.str a104 759,.str a35 760,.str a28 761] }
noncomputable def o_459:Params→Obj:=fun P=>{ cls:=.type SL.s2766695959194262286x5,data:=.seq #[] }
noncomputable def o_460:Params→Obj:=fun P=>{ cls:=.none,data:=.func fd84 }
noncomputable def o_461:Params→Obj:=fun P=>{ cls:=.type SL.s5856160107412720595x4,data:=.fields #[.str a127 748,.str a127 749,.str a1 750,.int 296 0,.int 2 0,.int 0 0,.int 0 0,.int 3 0,.ref 402,.bool true,.int 181 0,.ref 403,.none,.ref 404,.ref 405,.ref 406,.int 762 0,.int 296 0,.str a1 763] }
noncomputable def o_462:Params→Obj:=fun P=>{ cls:=.type SL.s7174869446012820540x8,data:=.func fd85 }
noncomputable def o_463:Params→Obj:=fun P=>{ cls:=.type SL.s2766695959194262286x5,data:=.seq #[] }
noncomputable def o_464:Params→Obj:=fun P=>{ cls:=.none,data:=.fields #[] }
noncomputable def o_465:Params→Obj:=fun P=>{ cls:=.type SL.s2766695959194262286x5,data:=.seq #[.str a179 770,.str a180 771,.str a181 772] }
noncomputable def o_466:Params→Obj:=fun P=>{ cls:=.type SL.s2766695959194262286x5,data:=.seq #[] }
noncomputable def o_467:Params→Obj:=fun P=>{ cls:=.none,data:=.func fd86 }
noncomputable def o_468:Params→Obj:=fun P=>{ cls:=.type SL.s5856160107412720595x4,data:=.fields #[.str a135 767,.str a135 768,.str a1 769,.int 321 0,.int 2 0,.int 0 0,.int 0 0,.int 3 0,.ref 409,.bool true,.int 181 0,.ref 410,.none,.ref 411,.ref 412,.ref 413,.int 773 0,.int 321 0,.str a1 774] }
noncomputable def o_469:Params→Obj:=fun P=>{ cls:=.type SL.s7174869446012820540x8,data:=.func fd87 }
noncomputable def o_470:Params→Obj:=fun P=>{ cls:=.type SL.s2766695959194262286x5,data:=.seq #[] }
noncomputable def o_471:Params→Obj:=fun P=>{ cls:=.none,data:=.fields #[] }
noncomputable def o_472:Params→Obj:=fun P=>{ cls:=.none,data:=.func fd88 }
noncomputable def o_473:Params→Obj:=fun P=>{ cls:=.type SL.s5856160107412720595x4,data:=.fields #[.str a136 776,.str a136 777,.str a1 778,.int 330 0,.int 1 0,.int 0 0,.int 0 0,.int 3 0,.ref 416,.bool true,.int 181 0,.ref 417,.none,.none,.none,.ref 418,.int 779 0,.int 330 0,.str a1 780] }
noncomputable def o_474:Params→Obj:=fun P=>{ cls:=.type SL.s7174869446012820540x8,data:=.func fd89 }
noncomputable def o_475:Params→Obj:=fun P=>{ cls:=.type SL.s2766695959194262286x5,data:=.seq #[] }
noncomputable def o_476:Params→Obj:=fun P=>{ cls:=.none,data:=.fields #[] }
noncomputable def o_477:Params→Obj:=fun P=>{ cls:=.type SL.s2766695959194262286x5,data:=.seq #[.str a16 785,.str a120 786,.str a60 787,.str a6 788] }
noncomputable def o_478:Params→Obj:=fun P=>{ cls:=.type SL.s2766695959194262286x5,data:=.seq #[] }
noncomputable def o_479:Params→Obj:=fun P=>{ cls:=.none,data:=.func fd90 }
noncomputable def o_480:Params→Obj:=fun P=>{ cls:=.type SL.s5856160107412720595x4,data:=.fields #[.str a51 782,.str a51 783,.str a1 784,.int 333 0,.int 3 0,.int 0 0,.int 0 0,.int 3 0,.ref 421,.bool true,.int 181 0,.ref 422,.none,.ref 423,.ref 424,.ref 425,.int 789 0,.int 333 0,.str a1 790] }
noncomputable def o_481:Params→Obj:=fun P=>{ cls:=.type SL.s7174869446012820540x8,data:=.func fd91 }
noncomputable def o_482:Params→Obj:=fun P=>{ cls:=.type SL.s2766695959194262286x5,data:=.seq #[] }
noncomputable def o_483:Params→Obj:=fun P=>{ cls:=.none,data:=.fields #[] }
noncomputable def o_484:Params→Obj:=fun P=>{ cls:=.none,data:=.func fd92 }
noncomputable def o_485:Params→Obj:=fun P=>{ cls:=.type SL.s5856160107412720595x4,data:=.fields #[.str a45 792,.str a45 793,.str a1 794,.int 338 0,.int 3 0,.int 0 0,.int 0 0,.int 3 0,.ref 428,.bool true,.int 181 0,.ref 429,.none,.none,.none,.ref 430,.int 795 0,.int 338 0,.str a1 796] }
noncomputable def o_486:Params→Obj:=fun P=>{ cls:=.type SL.s7174869446012820540x8,data:=.func fd93 }
noncomputable def o_487:Params→Obj:=fun P=>{ cls:=.type SL.s2766695959194262286x5,data:=.seq #[] }
noncomputable def o_488:Params→Obj:=fun P=>{ cls:=.none,data:=.fields #[] }
noncomputable def o_489:Params→Obj:=fun P=>{ cls:=.none,data:=.func fd94 }
noncomputable def o_490:Params→Obj:=fun P=>{ cls:=.type SL.s5856160107412720595x4,data:=.fields #[.str a137 798,.str a137 799,.str a1 800,.int 354 0,.int 1 0,.int 0 0,.int 0 0,.int 3 0,.ref 433,.bool true,.int 181 0,.ref 434,.none,.none,.none,.ref 435,.int 801 0,.int 354 0,.str a1 802] }
noncomputable def o_491:Params→Obj:=fun P=>{ cls:=.type SL.s7174869446012820540x8,data:=.func fd95 }
noncomputable def tree_47:Params→BT:=fun P=>.node (boot_o_0 P) (.node (boot_o_1 P) (.node (boot_o_3 P) (.node (boot_o_7 P) .nil .nil) (.node (o_43 P) .nil .nil)) (.node (boot_o_5 P) (.node (boot_o_9 P) .nil .nil) (.node (o_45 P) .nil .nil))) (.node (boot_o_2 P) (.node (boot_o_4 P) (.node (boot_o_8 P) .nil .nil) (.node (o_44 P) .nil .nil)) (.node (boot_o_6 P) (.node (boot_o_10 P) .nil .nil) (.node (o_46 P) .nil .nil)))
noncomputable def tree_144:Params→BT:=fun P=>.node (boot_o_0 P) (.node (boot_o_1 P) (.node (o_94 P) (.node (boot_o_7 P) (.node (o_52 P) (.node (o_74 P) (.node (o_105 P) .nil .nil) (.node (o_137 P) .nil .nil)) (.node (o_87 P) (.node (o_121 P) .nil .nil) .nil)) (.node (o_60 P) (.node (o_79 P) (.node (o_113 P) .nil .nil) .nil) (.node (o_97 P) (.node (o_129 P) .nil .nil) .nil))) (.node (o_43 P) (.node (o_56 P) (.node (o_75 P) (.node (o_109 P) .nil .nil) (.node (o_141 P) .nil .nil)) (.node (o_91 P) (.node (o_125 P) .nil .nil) .nil)) (.node (o_64 P) (.node (o_83 P) (.node (o_117 P) .nil .nil) .nil) (.node (o_101 P) (.node (o_133 P) .nil .nil) .nil)))) (.node (boot_o_5 P) (.node (boot_o_9 P) (.node (o_54 P) (.node (o_70 P) (.node (o_107 P) .nil .nil) (.node (o_139 P) .nil .nil)) (.node (o_89 P) (.node (o_123 P) .nil .nil) .nil)) (.node (o_62 P) (.node (o_81 P) (.node (o_115 P) .nil .nil) .nil) (.node (o_99 P) (.node (o_131 P) .nil .nil) .nil))) (.node (o_45 P) (.node (o_58 P) (.node (o_77 P) (.node (o_111 P) .nil .nil) (.node (o_143 P) .nil .nil)) (.node (o_93 P) (.node (o_127 P) .nil .nil) .nil)) (.node (o_66 P) (.node (o_85 P) (.node (o_119 P) .nil .nil) .nil) (.node (o_103 P) (.node (o_135 P) .nil .nil) .nil))))) (.node (o_49 P) (.node (boot_o_4 P) (.node (boot_o_8 P) (.node (o_53 P) (.node (o_69 P) (.node (o_106 P) .nil .nil) (.node (o_138 P) .nil .nil)) (.node (o_88 P) (.node (o_122 P) .nil .nil) .nil)) (.node (o_61 P) (.node (o_80 P) (.node (o_114 P) .nil .nil) .nil) (.node (o_98 P) (.node (o_130 P) .nil .nil) .nil))) (.node (o_95 P) (.node (o_57 P) (.node (o_76 P) (.node (o_110 P) .nil .nil) (.node (o_142 P) .nil .nil)) (.node (o_92 P) (.node (o_126 P) .nil .nil) .nil)) (.node (o_65 P) (.node (o_84 P) (.node (o_118 P) .nil .nil) .nil) (.node (o_102 P) (.node (o_134 P) .nil .nil) .nil)))) (.node (boot_o_6 P) (.node (boot_o_10 P) (.node (o_55 P) (.node (o_71 P) (.node (o_108 P) .nil .nil) (.node (o_140 P) .nil .nil)) (.node (o_90 P) (.node (o_124 P) .nil .nil) .nil)) (.node (o_63 P) (.node (o_82 P) (.node (o_116 P) .nil .nil) .nil) (.node (o_100 P) (.node (o_132 P) .nil .nil) .nil))) (.node (o_46 P) (.node (o_59 P) (.node (o_78 P) (.node (o_112 P) .nil .nil) (.node (o_144 P) .nil .nil)) (.node (o_96 P) (.node (o_128 P) .nil .nil) .nil)) (.node (o_67 P) (.node (o_86 P) (.node (o_120 P) .nil .nil) .nil) (.node (o_104 P) (.node (o_136 P) .nil .nil) .nil)))))
noncomputable def tree_253:Params→BT:=fun P=>.node (boot_o_0 P) (.node (boot_o_1 P) (.node (o_217 P) (.node (boot_o_7 P) (.node (o_52 P) (.node (o_74 P) (.node (o_105 P) (.node (o_171 P) .nil .nil) (.node (o_237 P) .nil .nil)) (.node (o_137 P) (.node (o_203 P) .nil .nil) .nil)) (.node (o_87 P) (.node (o_121 P) (.node (o_187 P) .nil .nil) (.node (o_253 P) .nil .nil)) (.node (o_155 P) (.node (o_221 P) .nil .nil) .nil))) (.node (o_60 P) (.node (o_79 P) (.node (o_113 P) (.node (o_179 P) .nil .nil) (.node (o_245 P) .nil .nil)) (.node (o_147 P) (.node (o_211 P) .nil .nil) .nil)) (.node (o_97 P) (.node (o_129 P) (.node (o_195 P) .nil .nil) .nil) (.node (o_163 P) (.node (o_229 P) .nil .nil) .nil)))) (.node (o_43 P) (.node (o_56 P) (.node (o_75 P) (.node (o_109 P) (.node (o_175 P) .nil .nil) (.node (o_241 P) .nil .nil)) (.node (o_141 P) (.node (o_207 P) .nil .nil) .nil)) (.node (o_91 P) (.node (o_125 P) (.node (o_191 P) .nil .nil) .nil) (.node (o_159 P) (.node (o_225 P) .nil .nil) .nil))) (.node (o_64 P) (.node (o_83 P) (.node (o_117 P) (.node (o_183 P) .nil .nil) (.node (o_249 P) .nil .nil)) (.node (o_151 P) (.node (o_215 P) .nil .nil) .nil)) (.node (o_101 P) (.node (o_133 P) (.node (o_199 P) .nil .nil) .nil) (.node (o_167 P) (.node (o_233 P) .nil .nil) .nil))))) (.node (boot_o_5 P) (.node (boot_o_9 P) (.node (o_54 P) (.node (o_70 P) (.node (o_107 P) (.node (o_173 P) .nil .nil) (.node (o_239 P) .nil .nil)) (.node (o_139 P) (.node (o_205 P) .nil .nil) .nil)) (.node (o_89 P) (.node (o_123 P) (.node (o_189 P) .nil .nil) .nil) (.node (o_157 P) (.node (o_223 P) .nil .nil) .nil))) (.node (o_62 P) (.node (o_81 P) (.node (o_115 P) (.node (o_181 P) .nil .nil) (.node (o_247 P) .nil .nil)) (.node (o_149 P) (.node (o_213 P) .nil .nil) .nil)) (.node (o_99 P) (.node (o_131 P) (.node (o_197 P) .nil .nil) .nil) (.node (o_165 P) (.node (o_231 P) .nil .nil) .nil)))) (.node (o_45 P) (.node (o_58 P) (.node (o_77 P) (.node (o_111 P) (.node (o_177 P) .nil .nil) (.node (o_243 P) .nil .nil)) (.node (o_143 P) (.node (o_209 P) .nil .nil) .nil)) (.node (o_93 P) (.node (o_127 P) (.node (o_193 P) .nil .nil) .nil) (.node (o_161 P) (.node (o_227 P) .nil .nil) .nil))) (.node (o_66 P) (.node (o_85 P) (.node (o_119 P) (.node (o_185 P) .nil .nil) (.node (o_251 P) .nil .nil)) (.node (o_153 P) (.node (o_219 P) .nil .nil) .nil)) (.node (o_103 P) (.node (o_135 P) (.node (o_201 P) .nil .nil) .nil) (.node (o_169 P) (.node (o_235 P) .nil .nil) .nil)))))) (.node (o_49 P) (.node (boot_o_4 P) (.node (boot_o_8 P) (.node (o_53 P) (.node (o_69 P) (.node (o_106 P) (.node (o_172 P) .nil .nil) (.node (o_238 P) .nil .nil)) (.node (o_138 P) (.node (o_204 P) .nil .nil) .nil)) (.node (o_88 P) (.node (o_122 P) (.node (o_188 P) .nil .nil) .nil) (.node (o_156 P) (.node (o_222 P) .nil .nil) .nil))) (.node (o_61 P) (.node (o_80 P) (.node (o_114 P) (.node (o_180 P) .nil .nil) (.node (o_246 P) .nil .nil)) (.node (o_148 P) (.node (o_212 P) .nil .nil) .nil)) (.node (o_98 P) (.node (o_130 P) (.node (o_196 P) .nil .nil) .nil) (.node (o_164 P) (.node (o_230 P) .nil .nil) .nil)))) (.node (o_218 P) (.node (o_57 P) (.node (o_76 P) (.node (o_110 P) (.node (o_176 P) .nil .nil) (.node (o_242 P) .nil .nil)) (.node (o_142 P) (.node (o_208 P) .nil .nil) .nil)) (.node (o_92 P) (.node (o_126 P) (.node (o_192 P) .nil .nil) .nil) (.node (o_160 P) (.node (o_226 P) .nil .nil) .nil))) (.node (o_65 P) (.node (o_84 P) (.node (o_118 P) (.node (o_184 P) .nil .nil) (.node (o_250 P) .nil .nil)) (.node (o_152 P) (.node (o_216 P) .nil .nil) .nil)) (.node (o_102 P) (.node (o_134 P) (.node (o_200 P) .nil .nil) .nil) (.node (o_168 P) (.node (o_234 P) .nil .nil) .nil))))) (.node (boot_o_6 P) (.node (boot_o_10 P) (.node (o_55 P) (.node (o_71 P) (.node (o_108 P) (.node (o_174 P) .nil .nil) (.node (o_240 P) .nil .nil)) (.node (o_140 P) (.node (o_206 P) .nil .nil) .nil)) (.node (o_90 P) (.node (o_124 P) (.node (o_190 P) .nil .nil) .nil) (.node (o_158 P) (.node (o_224 P) .nil .nil) .nil))) (.node (o_63 P) (.node (o_82 P) (.node (o_116 P) (.node (o_182 P) .nil .nil) (.node (o_248 P) .nil .nil)) (.node (o_150 P) (.node (o_214 P) .nil .nil) .nil)) (.node (o_100 P) (.node (o_132 P) (.node (o_198 P) .nil .nil) .nil) (.node (o_166 P) (.node (o_232 P) .nil .nil) .nil)))) (.node (o_46 P) (.node (o_59 P) (.node (o_78 P) (.node (o_112 P) (.node (o_178 P) .nil .nil) (.node (o_244 P) .nil .nil)) (.node (o_144 P) (.node (o_210 P) .nil .nil) .nil)) (.node (o_96 P) (.node (o_128 P) (.node (o_194 P) .nil .nil) .nil) (.node (o_162 P) (.node (o_228 P) .nil .nil) .nil))) (.node (o_67 P) (.node (o_86 P) (.node (o_120 P) (.node (o_186 P) .nil .nil) (.node (o_252 P) .nil .nil)) (.node (o_154 P) (.node (o_220 P) .nil .nil) .nil)) (.node (o_104 P) (.node (o_136 P) (.node (o_202 P) .nil .nil) .nil) (.node (o_170 P) (.node (o_236 P) .nil .nil) .nil))))))
noncomputable def tree_360:Params→BT:=fun P=>.node (boot_o_0 P) (.node (boot_o_1 P) (.node (o_312 P) (.node (boot_o_7 P) (.node (o_52 P) (.node (o_74 P) (.node (o_105 P) (.node (o_171 P) (.node (o_303 P) .nil .nil) .nil) (.node (o_237 P) .nil .nil)) (.node (o_137 P) (.node (o_203 P) (.node (o_337 P) .nil .nil) .nil) (.node (o_271 P) .nil .nil))) (.node (o_87 P) (.node (o_121 P) (.node (o_187 P) (.node (o_321 P) .nil .nil) .nil) (.node (o_253 P) .nil .nil)) (.node (o_155 P) (.node (o_221 P) (.node (o_353 P) .nil .nil) .nil) (.node (o_287 P) .nil .nil)))) (.node (o_60 P) (.node (o_79 P) (.node (o_113 P) (.node (o_179 P) (.node (o_311 P) .nil .nil) .nil) (.node (o_245 P) .nil .nil)) (.node (o_147 P) (.node (o_211 P) (.node (o_345 P) .nil .nil) .nil) (.node (o_279 P) .nil .nil))) (.node (o_97 P) (.node (o_129 P) (.node (o_195 P) (.node (o_329 P) .nil .nil) .nil) (.node (o_263 P) .nil .nil)) (.node (o_163 P) (.node (o_229 P) .nil .nil) (.node (o_295 P) .nil .nil))))) (.node (o_43 P) (.node (o_56 P) (.node (o_75 P) (.node (o_109 P) (.node (o_175 P) (.node (o_307 P) .nil .nil) .nil) (.node (o_241 P) .nil .nil)) (.node (o_141 P) (.node (o_207 P) (.node (o_341 P) .nil .nil) .nil) (.node (o_275 P) .nil .nil))) (.node (o_91 P) (.node (o_125 P) (.node (o_191 P) (.node (o_325 P) .nil .nil) .nil) (.node (o_259 P) .nil .nil)) (.node (o_159 P) (.node (o_225 P) (.node (o_357 P) .nil .nil) .nil) (.node (o_291 P) .nil .nil)))) (.node (o_64 P) (.node (o_83 P) (.node (o_117 P) (.node (o_183 P) (.node (o_317 P) .nil .nil) .nil) (.node (o_249 P) .nil .nil)) (.node (o_151 P) (.node (o_215 P) (.node (o_349 P) .nil .nil) .nil) (.node (o_283 P) .nil .nil))) (.node (o_101 P) (.node (o_133 P) (.node (o_199 P) (.node (o_333 P) .nil .nil) .nil) (.node (o_267 P) .nil .nil)) (.node (o_167 P) (.node (o_233 P) .nil .nil) (.node (o_299 P) .nil .nil)))))) (.node (boot_o_5 P) (.node (boot_o_9 P) (.node (o_54 P) (.node (o_70 P) (.node (o_107 P) (.node (o_173 P) (.node (o_305 P) .nil .nil) .nil) (.node (o_239 P) .nil .nil)) (.node (o_139 P) (.node (o_205 P) (.node (o_339 P) .nil .nil) .nil) (.node (o_273 P) .nil .nil))) (.node (o_89 P) (.node (o_123 P) (.node (o_189 P) (.node (o_323 P) .nil .nil) .nil) (.node (o_257 P) .nil .nil)) (.node (o_157 P) (.node (o_223 P) (.node (o_355 P) .nil .nil) .nil) (.node (o_289 P) .nil .nil)))) (.node (o_62 P) (.node (o_81 P) (.node (o_115 P) (.node (o_181 P) (.node (o_315 P) .nil .nil) .nil) (.node (o_247 P) .nil .nil)) (.node (o_149 P) (.node (o_213 P) (.node (o_347 P) .nil .nil) .nil) (.node (o_281 P) .nil .nil))) (.node (o_99 P) (.node (o_131 P) (.node (o_197 P) (.node (o_331 P) .nil .nil) .nil) (.node (o_265 P) .nil .nil)) (.node (o_165 P) (.node (o_231 P) .nil .nil) (.node (o_297 P) .nil .nil))))) (.node (o_45 P) (.node (o_58 P) (.node (o_77 P) (.node (o_111 P) (.node (o_177 P) (.node (o_309 P) .nil .nil) .nil) (.node (o_243 P) .nil .nil)) (.node (o_143 P) (.node (o_209 P) (.node (o_343 P) .nil .nil) .nil) (.node (o_277 P) .nil .nil))) (.node (o_93 P) (.node (o_127 P) (.node (o_193 P) (.node (o_327 P) .nil .nil) .nil) (.node (o_261 P) .nil .nil)) (.node (o_161 P) (.node (o_227 P) (.node (o_359 P) .nil .nil) .nil) (.node (o_293 P) .nil .nil)))) (.node (o_66 P) (.node (o_85 P) (.node (o_119 P) (.node (o_185 P) (.node (o_319 P) .nil .nil) .nil) (.node (o_251 P) .nil .nil)) (.node (o_153 P) (.node (o_219 P) (.node (o_351 P) .nil .nil) .nil) (.node (o_285 P) .nil .nil))) (.node (o_103 P) (.node (o_135 P) (.node (o_201 P) (.node (o_335 P) .nil .nil) .nil) (.node (o_269 P) .nil .nil)) (.node (o_169 P) (.node (o_235 P) .nil .nil) (.node (o_301 P) .nil .nil))))))) (.node (o_49 P) (.node (boot_o_4 P) (.node (boot_o_8 P) (.node (o_53 P) (.node (o_69 P) (.node (o_106 P) (.node (o_172 P) (.node (o_304 P) .nil .nil) .nil) (.node (o_238 P) .nil .nil)) (.node (o_138 P) (.node (o_204 P) (.node (o_338 P) .nil .nil) .nil) (.node (o_272 P) .nil .nil))) (.node (o_88 P) (.node (o_122 P) (.node (o_188 P) (.node (o_322 P) .nil .nil) .nil) (.node (o_256 P) .nil .nil)) (.node (o_156 P) (.node (o_222 P) (.node (o_354 P) .nil .nil) .nil) (.node (o_288 P) .nil .nil)))) (.node (o_61 P) (.node (o_80 P) (.node (o_114 P) (.node (o_180 P) (.node (o_314 P) .nil .nil) .nil) (.node (o_246 P) .nil .nil)) (.node (o_148 P) (.node (o_212 P) (.node (o_346 P) .nil .nil) .nil) (.node (o_280 P) .nil .nil))) (.node (o_98 P) (.node (o_130 P) (.node (o_196 P) (.node (o_330 P) .nil .nil) .nil) (.node (o_264 P) .nil .nil)) (.node (o_164 P) (.node (o_230 P) .nil .nil) (.node (o_296 P) .nil .nil))))) (.node (o_313 P) (.node (o_57 P) (.node (o_76 P) (.node (o_110 P) (.node (o_176 P) (.node (o_308 P) .nil .nil) .nil) (.node (o_242 P) .nil .nil)) (.node (o_142 P) (.node (o_208 P) (.node (o_342 P) .nil .nil) .nil) (.node (o_276 P) .nil .nil))) (.node (o_92 P) (.node (o_126 P) (.node (o_192 P) (.node (o_326 P) .nil .nil) .nil) (.node (o_260 P) .nil .nil)) (.node (o_160 P) (.node (o_226 P) (.node (o_358 P) .nil .nil) .nil) (.node (o_292 P) .nil .nil)))) (.node (o_65 P) (.node (o_84 P) (.node (o_118 P) (.node (o_184 P) (.node (o_318 P) .nil .nil) .nil) (.node (o_250 P) .nil .nil)) (.node (o_152 P) (.node (o_216 P) (.node (o_350 P) .nil .nil) .nil) (.node (o_284 P) .nil .nil))) (.node (o_102 P) (.node (o_134 P) (.node (o_200 P) (.node (o_334 P) .nil .nil) .nil) (.node (o_268 P) .nil .nil)) (.node (o_168 P) (.node (o_234 P) .nil .nil) (.node (o_300 P) .nil .nil)))))) (.node (boot_o_6 P) (.node (boot_o_10 P) (.node (o_55 P) (.node (o_71 P) (.node (o_108 P) (.node (o_174 P) (.node (o_306 P) .nil .nil) .nil) (.node (o_240 P) .nil .nil)) (.node (o_140 P) (.node (o_206 P) (.node (o_340 P) .nil .nil) .nil) (.node (o_274 P) .nil .nil))) (.node (o_90 P) (.node (o_124 P) (.node (o_190 P) (.node (o_324 P) .nil .nil) .nil) (.node (o_258 P) .nil .nil)) (.node (o_158 P) (.node (o_224 P) (.node (o_356 P) .nil .nil) .nil) (.node (o_290 P) .nil .nil)))) (.node (o_63 P) (.node (o_82 P) (.node (o_116 P) (.node (o_182 P) (.node (o_316 P) .nil .nil) .nil) (.node (o_248 P) .nil .nil)) (.node (o_150 P) (.node (o_214 P) (.node (o_348 P) .nil .nil) .nil) (.node (o_282 P) .nil .nil))) (.node (o_100 P) (.node (o_132 P) (.node (o_198 P) (.node (o_332 P) .nil .nil) .nil) (.node (o_266 P) .nil .nil)) (.node (o_166 P) (.node (o_232 P) .nil .nil) (.node (o_298 P) .nil .nil))))) (.node (o_46 P) (.node (o_59 P) (.node (o_78 P) (.node (o_112 P) (.node (o_178 P) (.node (o_310 P) .nil .nil) .nil) (.node (o_244 P) .nil .nil)) (.node (o_144 P) (.node (o_210 P) (.node (o_344 P) .nil .nil) .nil) (.node (o_278 P) .nil .nil))) (.node (o_96 P) (.node (o_128 P) (.node (o_194 P) (.node (o_328 P) .nil .nil) .nil) (.node (o_262 P) .nil .nil)) (.node (o_162 P) (.node (o_228 P) (.node (o_360 P) .nil .nil) .nil) (.node (o_294 P) .nil .nil)))) (.node (o_67 P) (.node (o_86 P) (.node (o_120 P) (.node (o_186 P) (.node (o_320 P) .nil .nil) .nil) (.node (o_252 P) .nil .nil)) (.node (o_154 P) (.node (o_220 P) (.node (o_352 P) .nil .nil) .nil) (.node (o_286 P) .nil .nil))) (.node (o_104 P) (.node (o_136 P) (.node (o_202 P) (.node (o_336 P) .nil .nil) .nil) (.node (o_270 P) .nil .nil)) (.node (o_170 P) (.node (o_236 P) .nil .nil) (.node (o_302 P) .nil .nil)))))))
noncomputable def tree_491:Params→BT:=fun P=>.node (boot_o_0 P) (.node (boot_o_1 P) (.node (o_439 P) (.node (boot_o_7 P) (.node (o_52 P) (.node (o_74 P) (.node (o_105 P) (.node (o_171 P) (.node (o_303 P) .nil .nil) (.node (o_435 P) .nil .nil)) (.node (o_237 P) (.node (o_371 P) .nil .nil) .nil)) (.node (o_137 P) (.node (o_203 P) (.node (o_337 P) .nil .nil) (.node (o_469 P) .nil .nil)) (.node (o_271 P) (.node (o_403 P) .nil .nil) .nil))) (.node (o_87 P) (.node (o_121 P) (.node (o_187 P) (.node (o_321 P) .nil .nil) (.node (o_453 P) .nil .nil)) (.node (o_253 P) (.node (o_387 P) .nil .nil) .nil)) (.node (o_155 P) (.node (o_221 P) (.node (o_353 P) .nil .nil) (.node (o_485 P) .nil .nil)) (.node (o_287 P) (.node (o_419 P) .nil .nil) .nil)))) (.node (o_60 P) (.node (o_79 P) (.node (o_113 P) (.node (o_179 P) (.node (o_311 P) .nil .nil) (.node (o_445 P) .nil .nil)) (.node (o_245 P) (.node (o_379 P) .nil .nil) .nil)) (.node (o_147 P) (.node (o_211 P) (.node (o_345 P) .nil .nil) (.node (o_477 P) .nil .nil)) (.node (o_279 P) (.node (o_411 P) .nil .nil) .nil))) (.node (o_97 P) (.node (o_129 P) (.node (o_195 P) (.node (o_329 P) .nil .nil) (.node (o_461 P) .nil .nil)) (.node (o_263 P) (.node (o_395 P) .nil .nil) .nil)) (.node (o_163 P) (.node (o_229 P) (.node (o_363 P) .nil .nil) .nil) (.node (o_295 P) (.node (o_427 P) .nil .nil) .nil))))) (.node (o_43 P) (.node (o_56 P) (.node (o_75 P) (.node (o_109 P) (.node (o_175 P) (.node (o_307 P) .nil .nil) (.node (o_441 P) .nil .nil)) (.node (o_241 P) (.node (o_375 P) .nil .nil) .nil)) (.node (o_141 P) (.node (o_207 P) (.node (o_341 P) .nil .nil) (.node (o_473 P) .nil .nil)) (.node (o_275 P) (.node (o_407 P) .nil .nil) .nil))) (.node (o_91 P) (.node (o_125 P) (.node (o_191 P) (.node (o_325 P) .nil .nil) (.node (o_457 P) .nil .nil)) (.node (o_259 P) (.node (o_391 P) .nil .nil) .nil)) (.node (o_159 P) (.node (o_225 P) (.node (o_357 P) .nil .nil) (.node (o_489 P) .nil .nil)) (.node (o_291 P) (.node (o_423 P) .nil .nil) .nil)))) (.node (o_64 P) (.node (o_83 P) (.node (o_117 P) (.node (o_183 P) (.node (o_317 P) .nil .nil) (.node (o_449 P) .nil .nil)) (.node (o_249 P) (.node (o_383 P) .nil .nil) .nil)) (.node (o_151 P) (.node (o_215 P) (.node (o_349 P) .nil .nil) (.node (o_481 P) .nil .nil)) (.node (o_283 P) (.node (o_415 P) .nil .nil) .nil))) (.node (o_101 P) (.node (o_133 P) (.node (o_199 P) (.node (o_333 P) .nil .nil) (.node (o_465 P) .nil .nil)) (.node (o_267 P) (.node (o_399 P) .nil .nil) .nil)) (.node (o_167 P) (.node (o_233 P) (.node (o_367 P) .nil .nil) .nil) (.node (o_299 P) (.node (o_431 P) .nil .nil) .nil)))))) (.node (boot_o_5 P) (.node (boot_o_9 P) (.node (o_54 P) (.node (o_70 P) (.node (o_107 P) (.node (o_173 P) (.node (o_305 P) .nil .nil) (.node (o_437 P) .nil .nil)) (.node (o_239 P) (.node (o_373 P) .nil .nil) .nil)) (.node (o_139 P) (.node (o_205 P) (.node (o_339 P) .nil .nil) (.node (o_471 P) .nil .nil)) (.node (o_273 P) (.node (o_405 P) .nil .nil) .nil))) (.node (o_89 P) (.node (o_123 P) (.node (o_189 P) (.node (o_323 P) .nil .nil) (.node (o_455 P) .nil .nil)) (.node (o_257 P) (.node (o_389 P) .nil .nil) .nil)) (.node (o_157 P) (.node (o_223 P) (.node (o_355 P) .nil .nil) (.node (o_487 P) .nil .nil)) (.node (o_289 P) (.node (o_421 P) .nil .nil) .nil)))) (.node (o_62 P) (.node (o_81 P) (.node (o_115 P) (.node (o_181 P) (.node (o_315 P) .nil .nil) (.node (o_447 P) .nil .nil)) (.node (o_247 P) (.node (o_381 P) .nil .nil) .nil)) (.node (o_149 P) (.node (o_213 P) (.node (o_347 P) .nil .nil) (.node (o_479 P) .nil .nil)) (.node (o_281 P) (.node (o_413 P) .nil .nil) .nil))) (.node (o_99 P) (.node (o_131 P) (.node (o_197 P) (.node (o_331 P) .nil .nil) (.node (o_463 P) .nil .nil)) (.node (o_265 P) (.node (o_397 P) .nil .nil) .nil)) (.node (o_165 P) (.node (o_231 P) (.node (o_365 P) .nil .nil) .nil) (.node (o_297 P) (.node (o_429 P) .nil .nil) .nil))))) (.node (o_45 P) (.node (o_58 P) (.node (o_77 P) (.node (o_111 P) (.node (o_177 P) (.node (o_309 P) .nil .nil) (.node (o_443 P) .nil .nil)) (.node (o_243 P) (.node (o_377 P) .nil .nil) .nil)) (.node (o_143 P) (.node (o_209 P) (.node (o_343 P) .nil .nil) (.node (o_475 P) .nil .nil)) (.node (o_277 P) (.node (o_409 P) .nil .nil) .nil))) (.node (o_93 P) (.node (o_127 P) (.node (o_193 P) (.node (o_327 P) .nil .nil) (.node (o_459 P) .nil .nil)) (.node (o_261 P) (.node (o_393 P) .nil .nil) .nil)) (.node (o_161 P) (.node (o_227 P) (.node (o_359 P) .nil .nil) (.node (o_491 P) .nil .nil)) (.node (o_293 P) (.node (o_425 P) .nil .nil) .nil)))) (.node (o_66 P) (.node (o_85 P) (.node (o_119 P) (.node (o_185 P) (.node (o_319 P) .nil .nil) (.node (o_451 P) .nil .nil)) (.node (o_251 P) (.node (o_385 P) .nil .nil) .nil)) (.node (o_153 P) (.node (o_219 P) (.node (o_351 P) .nil .nil) (.node (o_483 P) .nil .nil)) (.node (o_285 P) (.node (o_417 P) .nil .nil) .nil))) (.node (o_103 P) (.node (o_135 P) (.node (o_201 P) (.node (o_335 P) .nil .nil) (.node (o_467 P) .nil .nil)) (.node (o_269 P) (.node (o_401 P) .nil .nil) .nil)) (.node (o_169 P) (.node (o_235 P) (.node (o_369 P) .nil .nil) .nil) (.node (o_301 P) (.node (o_433 P) .nil .nil) .nil))))))) (.node (o_49 P) (.node (boot_o_4 P) (.node (boot_o_8 P) (.node (o_53 P) (.node (o_69 P) (.node (o_106 P) (.node (o_172 P) (.node (o_304 P) .nil .nil) (.node (o_436 P) .nil .nil)) (.node (o_238 P) (.node (o_372 P) .nil .nil) .nil)) (.node (o_138 P) (.node (o_204 P) (.node (o_338 P) .nil .nil) (.node (o_470 P) .nil .nil)) (.node (o_272 P) (.node (o_404 P) .nil .nil) .nil))) (.node (o_88 P) (.node (o_122 P) (.node (o_188 P) (.node (o_322 P) .nil .nil) (.node (o_454 P) .nil .nil)) (.node (o_256 P) (.node (o_388 P) .nil .nil) .nil)) (.node (o_156 P) (.node (o_222 P) (.node (o_354 P) .nil .nil) (.node (o_486 P) .nil .nil)) (.node (o_288 P) (.node (o_420 P) .nil .nil) .nil)))) (.node (o_61 P) (.node (o_80 P) (.node (o_114 P) (.node (o_180 P) (.node (o_314 P) .nil .nil) (.node (o_446 P) .nil .nil)) (.node (o_246 P) (.node (o_380 P) .nil .nil) .nil)) (.node (o_148 P) (.node (o_212 P) (.node (o_346 P) .nil .nil) (.node (o_478 P) .nil .nil)) (.node (o_280 P) (.node (o_412 P) .nil .nil) .nil))) (.node (o_98 P) (.node (o_130 P) (.node (o_196 P) (.node (o_330 P) .nil .nil) (.node (o_462 P) .nil .nil)) (.node (o_264 P) (.node (o_396 P) .nil .nil) .nil)) (.node (o_164 P) (.node (o_230 P) (.node (o_364 P) .nil .nil) .nil) (.node (o_296 P) (.node (o_428 P) .nil .nil) .nil))))) (.node (o_440 P) (.node (o_57 P) (.node (o_76 P) (.node (o_110 P) (.node (o_176 P) (.node (o_308 P) .nil .nil) (.node (o_442 P) .nil .nil)) (.node (o_242 P) (.node (o_376 P) .nil .nil) .nil)) (.node (o_142 P) (.node (o_208 P) (.node (o_342 P) .nil .nil) (.node (o_474 P) .nil .nil)) (.node (o_276 P) (.node (o_408 P) .nil .nil) .nil))) (.node (o_92 P) (.node (o_126 P) (.node (o_192 P) (.node (o_326 P) .nil .nil) (.node (o_458 P) .nil .nil)) (.node (o_260 P) (.node (o_392 P) .nil .nil) .nil)) (.node (o_160 P) (.node (o_226 P) (.node (o_358 P) .nil .nil) (.node (o_490 P) .nil .nil)) (.node (o_292 P) (.node (o_424 P) .nil .nil) .nil)))) (.node (o_65 P) (.node (o_84 P) (.node (o_118 P) (.node (o_184 P) (.node (o_318 P) .nil .nil) (.node (o_450 P) .nil .nil)) (.node (o_250 P) (.node (o_384 P) .nil .nil) .nil)) (.node (o_152 P) (.node (o_216 P) (.node (o_350 P) .nil .nil) (.node (o_482 P) .nil .nil)) (.node (o_284 P) (.node (o_416 P) .nil .nil) .nil))) (.node (o_102 P) (.node (o_134 P) (.node (o_200 P) (.node (o_334 P) .nil .nil) (.node (o_466 P) .nil .nil)) (.node (o_268 P) (.node (o_400 P) .nil .nil) .nil)) (.node (o_168 P) (.node (o_234 P) (.node (o_368 P) .nil .nil) .nil) (.node (o_300 P) (.node (o_432 P) .nil .nil) .nil)))))) (.node (boot_o_6 P) (.node (boot_o_10 P) (.node (o_55 P) (.node (o_71 P) (.node (o_108 P) (.node (o_174 P) (.node (o_306 P) .nil .nil) (.node (o_438 P) .nil .nil)) (.node (o_240 P) (.node (o_374 P) .nil .nil) .nil)) (.node (o_140 P) (.node (o_206 P) (.node (o_340 P) .nil .nil) (.node (o_472 P) .nil .nil)) (.node (o_274 P) (.node (o_406 P) .nil .nil) .nil))) (.node (o_90 P) (.node (o_124 P) (.node (o_190 P) (.node (o_324 P) .nil .nil) (.node (o_456 P) .nil .nil)) (.node (o_258 P) (.node (o_390 P) .nil .nil) .nil)) (.node (o_158 P) (.node (o_224 P) (.node (o_356 P) .nil .nil) (.node (o_488 P) .nil .nil)) (.node (o_290 P) (.node (o_422 P) .nil .nil) .nil)))) (.node (o_63 P) (.node (o_82 P) (.node (o_116 P) (.node (o_182 P) (.node (o_316 P) .nil .nil) (.node (o_448 P) .nil .nil)) (.node (o_248 P) (.node (o_382 P) .nil .nil) .nil)) (.node (o_150 P) (.node (o_214 P) (.node (o_348 P) .nil .nil) (.node (o_480 P) .nil .nil)) (.node (o_282 P) (.node (o_414 P) .nil .nil) .nil))) (.node (o_100 P) (.node (o_132 P) (.node (o_198 P) (.node (o_332 P) .nil .nil) (.node (o_464 P) .nil .nil)) (.node (o_266 P) (.node (o_398 P) .nil .nil) .nil)) (.node (o_166 P) (.node (o_232 P) (.node (o_366 P) .nil .nil) .nil) (.node (o_298 P) (.node (o_430 P) .nil .nil) .nil))))) (.node (o_46 P) (.node (o_59 P) (.node (o_78 P) (.node (o_112 P) (.node (o_178 P) (.node (o_310 P) .nil .nil) (.node (o_444 P) .nil .nil)) (.node (o_244 P) (.node (o_378 P) .nil .nil) .nil)) (.node (o_144 P) (.node (o_210 P) (.node (o_344 P) .nil .nil) (.node (o_476 P) .nil .nil)) (.node (o_278 P) (.node (o_410 P) .nil .nil) .nil))) (.node (o_96 P) (.node (o_128 P) (.node (o_194 P) (.node (o_328 P) .nil .nil) (.node (o_460 P) .nil .nil)) (.node (o_262 P) (.node (o_394 P) .nil .nil) .nil)) (.node (o_162 P) (.node (o_228 P) (.node (o_360 P) .nil .nil) .nil) (.node (o_294 P) (.node (o_426 P) .nil .nil) .nil)))) (.node (o_67 P) (.node (o_86 P) (.node (o_120 P) (.node (o_186 P) (.node (o_320 P) .nil .nil) (.node (o_452 P) .nil .nil)) (.node (o_252 P) (.node (o_386 P) .nil .nil) .nil)) (.node (o_154 P) (.node (o_220 P) (.node (o_352 P) .nil .nil) (.node (o_484 P) .nil .nil)) (.node (o_286 P) (.node (o_418 P) .nil .nil) .nil))) (.node (o_104 P) (.node (o_136 P) (.node (o_202 P) (.node (o_336 P) .nil .nil) (.node (o_468 P) .nil .nil)) (.node (o_270 P) (.node (o_402 P) .nil .nil) .nil)) (.node (o_170 P) (.node (o_236 P) (.node (o_370 P) .nil .nil) .nil) (.node (o_302 P) (.node (o_434 P) .nil .nil) .nil)))))))
noncomputable def heap_46:Params→Heap:=fun P=>{ objs:={ toList:=[boot_o_0 P,boot_o_1 P,boot_o_2 P,boot_o_3 P,boot_o_4 P,boot_o_5 P,boot_o_6 P,boot_o_7 P,boot_o_8 P,boot_o_9 P,boot_o_10 P,o_43 P,o_44 P,o_45 P,o_46 P] } }
noncomputable def heap_492:Params→Heap:=fun P=>{ objs:={ toList:=[boot_o_0 P,boot_o_1 P,o_49 P,o_439 P,boot_o_4 P,boot_o_5 P,boot_o_6 P,boot_o_7 P,boot_o_8 P,boot_o_9 P,boot_o_10 P,o_43 P,o_440 P,o_45 P,o_46 P,o_52 P,o_53 P,o_54 P,o_55 P,o_56 P,o_57 P,o_58 P,o_59 P,o_60 P,o_61 P,o_62 P,o_63 P,o_64 P,o_65 P,o_66 P,o_67 P,o_74 P,o_69 P,o_70 P,o_71 P,o_75 P,o_76 P,o_77 P,o_78 P,o_79 P,o_80 P,o_81 P,o_82 P,o_83 P,o_84 P,o_85 P,o_86 P,o_87 P,o_88 P,o_89 P,o_90 P,o_91 P,o_92 P,o_93 P,o_96 P,o_97 P,o_98 P,o_99 P,o_100 P,o_101 P,o_102 P,o_103 P,o_104 P,o_105 P,o_106 P,o_107 P,o_108 P,o_109 P,o_110 P,o_111 P,o_112 P,o_113 P,o_114 P,o_115 P,o_116 P,o_117 P,o_118 P,o_119 P,o_120 P,o_121 P,o_122 P,o_123 P,o_124 P,o_125 P,o_126 P,o_127 P,o_128 P,o_129 P,o_130 P,o_131 P,o_132 P,o_133 P,o_134 P,o_135 P,o_136 P,o_137 P,o_138 P,o_139 P,o_140 P,o_141 P,o_142 P,o_143 P,o_144 P,o_147 P,o_148 P,o_149 P,o_150 P,o_151 P,o_152 P,o_153 P,o_154 P,o_155 P,o_156 P,o_157 P,o_158 P,o_159 P,o_160 P,o_161 P,o_162 P,o_163 P,o_164 P,o_165 P,o_166 P,o_167 P,o_168 P,o_169 P,o_170 P,o_171 P,o_172 P,o_173 P,o_174 P,o_175 P,o_176 P,o_177 P,o_178 P,o_179 P,o_180 P,o_181 P,o_182 P,o_183 P,o_184 P,o_185 P,o_186 P,o_187 P,o_188 P,o_189 P,o_190 P,o_191 P,o_192 P,o_193 P,o_194 P,o_195 P,o_196 P,o_197 P,o_198 P,o_199 P,o_200 P,o_201 P,o_202 P,o_203 P,o_204 P,o_205 P,o_206 P,o_207 P,o_208 P,o_209 P,o_210 P,o_211 P,o_212 P,o_213 P,o_214 P,o_215 P,o_216 P,o_219 P,o_220 P,o_221 P,o_222 P,o_223 P,o_224 P,o_225 P,o_226 P,o_227 P,o_228 P,o_229 P,o_230 P,o_231 P,o_232 P,o_233 P,o_234 P,o_235 P,o_236 P,o_237 P,o_238 P,o_239 P,o_240 P,o_241 P,o_242 P,o_243 P,o_244 P,o_245 P,o_246 P,o_247 P,o_248 P,o_249 P,o_250 P,o_251 P,o_252 P,o_253 P,o_256 P,o_257 P,o_258 P,o_259 P,o_260 P,o_261 P,o_262 P,o_263 P,o_264 P,o_265 P,o_266 P,o_267 P,o_268 P,o_269 P,o_270 P,o_271 P,o_272 P,o_273 P,o_274 P,o_275 P,o_276 P,o_277 P,o_278 P,o_279 P,o_280 P,o_281 P,o_282 P,o_283 P,o_284 P,o_285 P,o_286 P,o_287 P,o_288 P,o_289 P,o_290 P,o_291 P,o_292 P,o_293 P,o_294 P,o_295 P,o_296 P,o_297 P,o_298 P,o_299 P,o_300 P,o_301 P,o_302 P,o_303 P,o_304 P,o_305 P,o_306 P,o_307 P,o_308 P,o_309 P,o_310 P,o_311 P,o_314 P,o_315 P,o_316 P,o_317 P,o_318 P,o_319 P,o_320 P,o_321 P,o_322 P,o_323 P,o_324 P,o_325 P,o_326 P,o_327 P,o_328 P,o_329 P,o_330 P,o_331 P,o_332 P,o_333 P,o_334 P,o_335 P,o_336 P,o_337 P,o_338 P,o_339 P,o_340 P,o_341 P,o_342 P,o_343 P,o_344 P,o_345 P,o_346 P,o_347 P,o_348 P,o_349 P,o_350 P,o_351 P,o_352 P,o_353 P,o_354 P,o_355 P,o_356 P,o_357 P,o_358 P,o_359 P,o_360 P,o_363 P,o_364 P,o_365 P,o_366 P,o_367 P,o_368 P,o_369 P,o_370 P,o_371 P,o_372 P,o_373 P,o_374 P,o_375 P,o_376 P,o_377 P,o_378 P,o_379 P,o_380 P,o_381 P,o_382 P,o_383 P,o_384 P,o_385 P,o_386 P,o_387 P,o_388 P,o_389 P,o_390 P,o_391 P,o_392 P,o_393 P,o_394 P,o_395 P,o_396 P,o_397 P,o_398 P,o_399 P,o_400 P,o_401 P,o_402 P,o_403 P,o_404 P,o_405 P,o_406 P,o_407 P,o_408 P,o_409 P,o_410 P,o_411 P,o_412 P,o_413 P,o_414 P,o_415 P,o_416 P,o_417 P,o_418 P,o_419 P,o_420 P,o_421 P,o_422 P,o_423 P,o_424 P,o_425 P,o_426 P,o_427 P,o_428 P,o_429 P,o_430 P,o_431 P,o_432 P,o_433 P,o_434 P,o_435 P,o_436 P,o_437 P,o_438 P,o_441 P,o_442 P,o_443 P,o_444 P,o_445 P,o_446 P,o_447 P,o_448 P,o_449 P,o_450 P,o_451 P,o_452 P,o_453 P,o_454 P,o_455 P,o_456 P,o_457 P,o_458 P,o_459 P,o_460 P,o_461 P,o_462 P,o_463 P,o_464 P,o_465 P,o_466 P,o_467 P,o_468 P,o_469 P,o_470 P,o_471 P,o_472 P,o_473 P,o_474 P,o_475 P,o_476 P,o_477 P,o_478 P,o_479 P,o_480 P,o_481 P,o_482 P,o_483 P,o_484 P,o_485 P,o_486 P,o_487 P,o_488 P,o_489 P,o_490 P,o_491 P] } }
noncomputable def frag:Params→Frag:=fun P=>(nat_lit 2,o_49 P)::(nat_lit 3,o_439 P)::(nat_lit 15,o_52 P)::(nat_lit 17,o_54 P)::(nat_lit 18,o_55 P)::(nat_lit 20,o_57 P)::(nat_lit 21,o_58 P)::(nat_lit 22,o_59 P)::(nat_lit 29,o_66 P)::(nat_lit 30,o_67 P)::(nat_lit 31,o_74 P)::(nat_lit 32,o_69 P)::(nat_lit 35,o_75 P)::(nat_lit 42,o_82 P)::(nat_lit 44,o_84 P)::(nat_lit 45,o_85 P)::(nat_lit 47,o_87 P)::(nat_lit 48,o_88 P)::(nat_lit 49,o_89 P)::(nat_lit 50,o_90 P)::(nat_lit 51,o_91 P)::(nat_lit 61,o_103 P)::(nat_lit 63,o_105 P)::(nat_lit 64,o_106 P)::(nat_lit 66,o_108 P)::(nat_lit 67,o_109 P)::(nat_lit 68,o_110 P)::(nat_lit 70,o_112 P)::(nat_lit 71,o_113 P)::(nat_lit 73,o_115 P)::(nat_lit 74,o_116 P)::(nat_lit 75,o_117 P)::(nat_lit 77,o_119 P)::(nat_lit 78,o_120 P)::(nat_lit 80,o_122 P)::(nat_lit 81,o_123 P)::(nat_lit 82,o_124 P)::(nat_lit 84,o_126 P)::(nat_lit 85,o_127 P)::(nat_lit 87,o_129 P)::(nat_lit 88,o_130 P)::(nat_lit 89,o_131 P)::(nat_lit 91,o_133 P)::(nat_lit 92,o_134 P)::(nat_lit 94,o_136 P)::(nat_lit 95,o_137 P)::(nat_lit 96,o_138 P)::(nat_lit 97,o_139 P)::(nat_lit 98,o_140 P)::(nat_lit 99,o_141 P)::(nat_lit 100,o_142 P)::(nat_lit 110,o_154 P)::(nat_lit 112,o_156 P)::(nat_lit 113,o_157 P)::(nat_lit 115,o_159 P)::(nat_lit 116,o_160 P)::(nat_lit 117,o_161 P)::(nat_lit 119,o_163 P)::(nat_lit 120,o_164 P)::(nat_lit 122,o_166 P)::(nat_lit 123,o_167 P)::(nat_lit 124,o_168 P)::(nat_lit 126,o_170 P)::(nat_lit 127,o_171 P)::(nat_lit 129,o_173 P)::(nat_lit 130,o_174 P)::(nat_lit 131,o_175 P)::(nat_lit 133,o_177 P)::(nat_lit 134,o_178 P)::(nat_lit 136,o_180 P)::(nat_lit 137,o_181 P)::(nat_lit 138,o_182 P)::(nat_lit 140,o_184 P)::(nat_lit 141,o_185 P)::(nat_lit 143,o_187 P)::(nat_lit 144,o_188 P)::(nat_lit 145,o_189 P)::(nat_lit 147,o_191 P)::(nat_lit 148,o_192 P)::(nat_lit 150,o_194 P)::(nat_lit 151,o_195 P)::(nat_lit 152,o_196 P)::(nat_lit 154,o_198 P)::(nat_lit 155,o_199 P)::(nat_lit 157,o_201 P)::(nat_lit 158,o_202 P)::(nat_lit 159,o_203 P)::(nat_lit 161,o_205 P)::(nat_lit 162,o_206 P)::(nat_lit 164,o_208 P)::(nat_lit 165,o_209 P)::(nat_lit 166,o_210 P)::(nat_lit 167,o_211 P)::(nat_lit 168,o_212 P)::(nat_lit 169,o_213 P)::(nat_lit 170,o_214 P)::(nat_lit 180,o_226 P)::(nat_lit 182,o_228 P)::(nat_lit 183,o_229 P)::(nat_lit 185,o_231 P)::(nat_lit 186,o_232 P)::(nat_lit 187,o_233 P)::(nat_lit 189,o_235 P)::(nat_lit 190,o_236 P)::(nat_lit 192,o_238 P)::(nat_lit 193,o_239 P)::(nat_lit 194,o_240 P)::(nat_lit 196,o_242 P)::(nat_lit 197,o_243 P)::(nat_lit 199,o_245 P)::(nat_lit 200,o_246 P)::(nat_lit 201,o_247 P)::(nat_lit 202,o_248 P)::(nat_lit 203,o_249 P)::(nat_lit 204,o_250 P)::(nat_lit 205,o_251 P)::(nat_lit 215,o_263 P)::(nat_lit 217,o_265 P)::(nat_lit 218,o_266 P)::(nat_lit 220,o_268 P)::(nat_lit 221,o_269 P)::(nat_lit 222,o_270 P)::(nat_lit 224,o_272 P)::(nat_lit 225,o_273 P)::(nat_lit 227,o_275 P)::(nat_lit 228,o_276 P)::(nat_lit 229,o_277 P)::(nat_lit 231,o_279 P)::(nat_lit 232,o_280 P)::(nat_lit 234,o_282 P)::(nat_lit 235,o_283 P)::(nat_lit 236,o_284 P)::(nat_lit 238,o_286 P)::(nat_lit 239,o_287 P)::(nat_lit 241,o_289 P)::(nat_lit 242,o_290 P)::(nat_lit 243,o_291 P)::(nat_lit 244,o_292 P)::(nat_lit 245,o_293 P)::(nat_lit 246,o_294 P)::(nat_lit 247,o_295 P)::(nat_lit 250,o_298 P)::(nat_lit 252,o_300 P)::(nat_lit 253,o_301 P)::(nat_lit 255,o_303 P)::(nat_lit 256,o_304 P)::(nat_lit 257,o_305 P)::(nat_lit 259,o_307 P)::(nat_lit 260,o_308 P)::(nat_lit 262,o_310 P)::(nat_lit 263,o_311 P)::(nat_lit 264,o_314 P)::(nat_lit 267,o_317 P)::(nat_lit 268,o_318 P)::(nat_lit 269,o_319 P)::(nat_lit 271,o_321 P)::(nat_lit 272,o_322 P)::(nat_lit 274,o_324 P)::(nat_lit 275,o_325 P)::(nat_lit 276,o_326 P)::(nat_lit 278,o_328 P)::(nat_lit 279,o_329 P)::(nat_lit 281,o_331 P)::(nat_lit 282,o_332 P)::(nat_lit 290,o_340 P)::(nat_lit 292,o_342 P)::(nat_lit 293,o_343 P)::(nat_lit 295,o_345 P)::(nat_lit 296,o_346 P)::(nat_lit 297,o_347 P)::(nat_lit 299,o_349 P)::(nat_lit 300,o_350 P)::(nat_lit 302,o_352 P)::(nat_lit 303,o_353 P)::(nat_lit 304,o_354 P)::(nat_lit 305,o_355 P)::(nat_lit 306,o_356 P)::(nat_lit 307,o_357 P)::(nat_lit 308,o_358 P)::(nat_lit 311,o_363 P)::(nat_lit 313,o_365 P)::(nat_lit 314,o_366 P)::(nat_lit 316,o_368 P)::(nat_lit 317,o_369 P)::(nat_lit 318,o_370 P)::(nat_lit 320,o_372 P)::(nat_lit 321,o_373 P)::(nat_lit 323,o_375 P)::(nat_lit 324,o_376 P)::(nat_lit 325,o_377 P)::(nat_lit 327,o_379 P)::(nat_lit 328,o_380 P)::(nat_lit 330,o_382 P)::(nat_lit 331,o_383 P)::(nat_lit 332,o_384 P)::(nat_lit 334,o_386 P)::(nat_lit 335,o_387 P)::(nat_lit 337,o_389 P)::(nat_lit 338,o_390 P)::(nat_lit 339,o_391 P)::(nat_lit 341,o_393 P)::(nat_lit 342,o_394 P)::(nat_lit 344,o_396 P)::(nat_lit 345,o_397 P)::(nat_lit 346,o_398 P)::(nat_lit 348,o_400 P)::(nat_lit 349,o_401 P)::(nat_lit 351,o_403 P)::(nat_lit 352,o_404 P)::(nat_lit 353,o_405 P)::(nat_lit 355,o_407 P)::(nat_lit 356,o_408 P)::(nat_lit 358,o_410 P)::(nat_lit 359,o_411 P)::(nat_lit 360,o_412 P)::(nat_lit 362,o_414 P)::(nat_lit 363,o_415 P)::(nat_lit 365,o_417 P)::(nat_lit 366,o_418 P)::(nat_lit 367,o_419 P)::(nat_lit 370,o_422 P)::(nat_lit 371,o_423 P)::(nat_lit 372,o_424 P)::(nat_lit 373,o_425 P)::(nat_lit 375,o_427 P)::(nat_lit 376,o_428 P)::(nat_lit 378,o_430 P)::(nat_lit 379,o_431 P)::(nat_lit 380,o_432 P)::(nat_lit 382,o_434 P)::(nat_lit 383,o_435 P)::(nat_lit 385,o_437 P)::(nat_lit 386,o_438 P)::(nat_lit 387,o_441 P)::(nat_lit 389,o_443 P)::(nat_lit 390,o_444 P)::(nat_lit 392,o_446 P)::(nat_lit 393,o_447 P)::(nat_lit 394,o_448 P)::(nat_lit 396,o_450 P)::(nat_lit 397,o_451 P)::(nat_lit 399,o_453 P)::(nat_lit 400,o_454 P)::(nat_lit 401,o_455 P)::(nat_lit 402,o_456 P)::(nat_lit 404,o_458 P)::(nat_lit 405,o_459 P)::(nat_lit 407,o_461 P)::(nat_lit 408,o_462 P)::(nat_lit 409,o_463 P)::(nat_lit 411,o_465 P)::(nat_lit 412,o_466 P)::(nat_lit 414,o_468 P)::(nat_lit 415,o_469 P)::(nat_lit 416,o_470 P)::(nat_lit 419,o_473 P)::(nat_lit 420,o_474 P)::(nat_lit 421,o_475 P)::(nat_lit 423,o_477 P)::(nat_lit 424,o_478 P)::(nat_lit 426,o_480 P)::(nat_lit 427,o_481 P)::(nat_lit 428,o_482 P)::(nat_lit 431,o_485 P)::(nat_lit 432,o_486 P)::(nat_lit 433,o_487 P)::(nat_lit 436,o_490 P)::(nat_lit 437,o_491 P)::[]
noncomputable def frAs:List Nat:=[2,3,15,17,18,20,21,22,29,30,31,32,35,42,44,45,47,48,49,50,51,61,63,64,66,67,68,70,71,73,74,75,77,78,80,81,82,84,85,87,88,89,91,92,94,95,96,97,98,99,100,110,112,113,115,116,117,119,120,122,123,124,126,127,129,130,131,133,134,136,137,138,140,141,143,144,145,147,148,150,151,152,154,155,157,158,159,161,162,164,165,166,167,168,169,170,180,182,183,185,186,187,189,190,192,193,194,196,197,199,200,201,202,203,204,205,215,217,218,220,221,222,224,225,227,228,229,231,232,234,235,236,238,239,241,242,243,244,245,246,247,250,252,253,255,256,257,259,260,262,263,264,267,268,269,271,272,274,275,276,278,279,281,282,290,292,293,295,296,297,299,300,302,303,304,305,306,307,308,311,313,314,316,317,318,320,321,323,324,325,327,328,330,331,332,334,335,337,338,339,341,342,344,345,346,348,349,351,352,353,355,356,358,359,360,362,363,365,366,367,370,371,372,373,375,376,378,379,380,382,383,385,386,387,389,390,392,393,394,396,397,399,400,401,402,404,405,407,408,409,411,412,414,415,416,419,420,421,423,424,426,427,428,431,432,433,436,437]
noncomputable def pick (b:List Stmt):List Nat→List Stmt
 | []=>[]
 | i::r=>match b[i]? with
  | some s=>s::pick b r
  | none=>pick b r
noncomputable def viewOf (p:Program):Program:={ p with main:={ p.main with body:=pick p.main.body [0,2,3,5,6,8,9,10,11,12,13,14,15,17,18,19,20,21,22,23,24,25,26,27,28,29,30,31,32,34,35,36,39,40,41,42,43] } }
noncomputable def view:Program:=viewOf PP
noncomputable def viewT:Program:=viewOf PT
theorem teV:view=viewT:=congrArg viewOf tePP
noncomputable def LL:List Str:=[a134,a127]
noncomputable def envOf (p:Program):Env:={ scope:=p.main.scope,locals:=mainNs,globals:=mainNs,cells:=[],code:=.ref 13,frame:=some 14 }
noncomputable def stsOf (p:Program) (a n:Nat):List Stmt:=((behindTheImports p).drop a).take n
noncomputable def cOf (p:Program):Code:=.body (behindTheImports p) (envOf p)
noncomputable def P0:Pos:=⟨0,0,0,0⟩
noncomputable def B0:List Frame:=[topFrame P0]
theorem p47:∀ w:World,(fun os:OsState=>topGo treeTable PP w 11 (some (.ref 6)) 12 ⟨boot_heap w.params,⟨[]⟩,boot_drawn,boot_toks,os⟩ (topStub PP))=fun os:OsState=>some ((⟨heap_46 w.params,⟨[]⟩,{},187,os⟩:Shared),(⟨denote treeTable (cOf PP),cOf PP,P0,B0⟩:Thread)):=by intro w; rw [tePP,W.Fast.te15667345088766844465,W.Fast.te14364793385576792824,W.Fast.te11892475500146522536]; kernel_rfl
theorem p49:∀ w:World,(fun os:OsState=>segRun treeTable PP w 11 (some (.ref 6)) 1 1 (⟨heap_46 w.params,⟨[]⟩,{},187,os⟩:Shared) (blockOf (behindTheImports PP) (envOf PP) (cOf PP) P0 B0))=fun os:OsState=>some (Flow.next,(⟨tree_47 w.params,15,{},⟨[]⟩,{},187,os⟩:SharedT).abs,cOf PP,P0):=by intro w; rw [tePP,W.Fast.te14374325043358763698,W.Fast.te14364793385576792824]; kernel_rfl
theorem p145:∀ w:World,(fun os:OsState=>segRunT treeTable PP w 11 (some (.ref 6)) 1 843 (⟨tree_47 w.params,15,{},⟨[]⟩,{},187,os⟩:SharedT) (piecesOf (stsOf PP 0 6) (envOf PP) (cOf PP) (⟨0,0,0,0⟩:Pos) B0))=fun os:OsState=>some (Flow.next,(⟨tree_144 w.params,103,{},⟨[]⟩,{},306,os⟩:SharedT),cOf PP,(⟨13,0,32,16⟩:Pos)):=by intro w; rw [tePP,W.Fast.te10110043849684766642,W.Fast.te14364793385576792824]; kernel_rfl
theorem p254:∀ w:World,(fun os:OsState=>segRunT treeTable PP w 11 (some (.ref 6)) 1 745 (⟨tree_144 w.params,103,{},⟨[]⟩,{},306,os⟩:SharedT) (piecesOf (stsOf PP 6 3) (envOf PP) (cOf PP) (⟨13,0,32,16⟩:Pos) B0))=fun os:OsState=>some (Flow.next,(⟨tree_253 w.params,208,{},⟨[]⟩,{},440,os⟩:SharedT),cOf PP,(⟨81,0,100,23⟩:Pos)):=by intro w; rw [tePP,W.Fast.te10110043849684766642,W.Fast.te14364793385576792824]; kernel_rfl
theorem p361:∀ w:World,(fun os:OsState=>segRunT treeTable PP w 11 (some (.ref 6)) 1 788 (⟨tree_253 w.params,208,{},⟨[]⟩,{},440,os⟩:SharedT) (piecesOf (stsOf PP 9 12) (envOf PP) (cOf PP) (⟨81,0,100,23⟩:Pos) B0))=fun os:OsState=>some (Flow.next,(⟨tree_360 w.params,311,{},⟨[]⟩,{},601,os⟩:SharedT),cOf PP,(⟨197,0,197,12⟩:Pos)):=by intro w; rw [tePP,W.Fast.te10110043849684766642,W.Fast.te14364793385576792824]; kernel_rfl
theorem p492:∀ w:World,(fun os:OsState=>segRunT treeTable PP w 11 (some (.ref 6)) 1 645 (⟨tree_360 w.params,311,{},⟨[]⟩,{},601,os⟩:SharedT) (piecesOf (stsOf PP 21 23) (envOf PP) (cOf PP) (⟨197,0,197,12⟩:Pos) B0))=fun os:OsState=>some (Flow.next,(⟨tree_491 w.params,438,{},⟨[]⟩,{},804,os⟩:SharedT),cOf PP,(⟨354,0,386,81⟩:Pos)):=by intro w; rw [tePP,W.Fast.te10110043849684766642,W.Fast.te14364793385576792824]; kernel_rfl
end Mine
end
section
namespace Mine
open PySem PySem.W PyProof.Rows PySem.Spec PySem.Calls
noncomputable def FSh (w:World) (os:OsState):Shared:=⟨heap_492 w.params,⟨[]⟩,{},804,os⟩
noncomputable def PE:Pos:=⟨354,0,386,81⟩
theorem p494:∀ w:World,(fun os:OsState=>topRun treeTable PP w 11 (some (.ref 6)) 2 (⟨tree_491 w.params,438,{},⟨[]⟩,{},804,os⟩:SharedT).abs ⟨doneF .next,cOf PP,PE,B0⟩)=fun os:OsState=>some (FSh w os):=by intro w; rw [tePP,W.Fast.te14082659384304107361,W.Fast.te14364793385576792824]; kernel_rfl
theorem hb:behindTheImports PP=stsOf PP 0 6++(stsOf PP 6 3++(stsOf PP 9 12++(stsOf PP 21 23++(([]:List Stmt))))):=by kernel_rfl
theorem c0 (w:World) (os:OsState):topRun treeTable PP w 11 (some (.ref 6)) 2 ((⟨tree_491 w.params,438,{},⟨[]⟩,{},804,os⟩:SharedT)).abs (restOf [] (envOf PP) (cOf PP) (⟨354,0,386,81⟩:Pos) B0)=some (FSh w os):=congrFun (p494 w) os
theorem c1 (w:World) (os:OsState):topRun treeTable PP w 11 (some (.ref 6)) (Nat.add 645 2) ((⟨tree_360 w.params,311,{},⟨[]⟩,{},601,os⟩:SharedT)).abs (restOf (stsOf PP 21 23++(([]:List Stmt))) (envOf PP) (cOf PP) (⟨197,0,197,12⟩:Pos) B0)=some (FSh w os):=piece_app (q:=P0) (segRun_of (congrFun (p492 w) os)) (c0 w os)
theorem c2 (w:World) (os:OsState):topRun treeTable PP w 11 (some (.ref 6)) (Nat.add 788 (Nat.add 645 2)) ((⟨tree_253 w.params,208,{},⟨[]⟩,{},440,os⟩:SharedT)).abs (restOf (stsOf PP 9 12++(stsOf PP 21 23++(([]:List Stmt)))) (envOf PP) (cOf PP) (⟨81,0,100,23⟩:Pos) B0)=some (FSh w os):=piece_app (q:=P0) (segRun_of (congrFun (p361 w) os)) (c1 w os)
theorem c3 (w:World) (os:OsState):topRun treeTable PP w 11 (some (.ref 6)) (Nat.add 745 (Nat.add 788 (Nat.add 645 2))) ((⟨tree_144 w.params,103,{},⟨[]⟩,{},306,os⟩:SharedT)).abs (restOf (stsOf PP 6 3++(stsOf PP 9 12++(stsOf PP 21 23++(([]:List Stmt))))) (envOf PP) (cOf PP) (⟨13,0,32,16⟩:Pos) B0)=some (FSh w os):=piece_app (q:=P0) (segRun_of (congrFun (p254 w) os)) (c2 w os)
theorem c4 (w:World) (os:OsState):topRun treeTable PP w 11 (some (.ref 6)) (Nat.add 843 (Nat.add 745 (Nat.add 788 (Nat.add 645 2)))) ((⟨tree_47 w.params,15,{},⟨[]⟩,{},187,os⟩:SharedT)).abs (restOf (stsOf PP 0 6++(stsOf PP 6 3++(stsOf PP 9 12++(stsOf PP 21 23++(([]:List Stmt)))))) (envOf PP) (cOf PP) (⟨0,0,0,0⟩:Pos) B0)=some (FSh w os):=piece_app (q:=P0) (segRun_of (congrFun (p145 w) os)) (c3 w os)
theorem cB (w:World) (os:OsState):topRun treeTable PP w 11 (some (.ref 6)) (Nat.add 843 (Nat.add 745 (Nat.add 788 (Nat.add 645 2)))) ((⟨tree_47 w.params,15,{},⟨[]⟩,{},187,os⟩:SharedT)).abs (restOf (behindTheImports PP) (envOf PP) (cOf PP) (⟨0,0,0,0⟩:Pos) B0)=some (FSh w os):=by
 have e:restOf (behindTheImports PP) (envOf PP) (cOf PP) (⟨0,0,0,0⟩:Pos) B0=restOf (stsOf PP 0 6++(stsOf PP 6 3++(stsOf PP 9 12++(stsOf PP 21 23++(([]:List Stmt)))))) (envOf PP) (cOf PP) (⟨0,0,0,0⟩:Pos) B0:=congrArg (fun b=>restOf b (envOf PP) (cOf PP) (⟨0,0,0,0⟩:Pos) B0) hb
 rw [e]
 exact c4 w os
theorem hrun (w:World) (os:OsState):topRun treeTable PP w 11 (some (.ref 6)) (Nat.add 12 (Nat.add 1 (Nat.add 843 (Nat.add 745 (Nat.add 788 (Nat.add 645 2)))))) ⟨boot_heap w.params,⟨[]⟩,boot_drawn,boot_toks,os⟩ (topStub PP)=some (FSh w os):=
 go_top (congrFun (p47 w) os) (piece_block (q:=P0) (congrFun (p49 w) os) (cB w os))
theorem hsize:∀ w:World,((boot_heap w.params).isNs mainGlobals&&(⟨[]⟩:Array GenState).size == 0,(boot_heap w.params).objs.size,(boot_heap w.params).nsMap mainGlobals "__annotations__")=(true,11,some (.ref 6)):=by
 intro w
 rw [W.Fast.te8920871248978507458,show Str.ofString "__annotations__" = a72 from W.Fast.ofString_ofList ['_','_','a','n','n','o','t','a','t','i','o','n','s','_','_']]
 kernel_rfl
theorem e42:opening PP=plainProg PP.main.scope.names:=by kernel_rfl
theorem e43:∀ s,fenceModules? PP s=some s:=fun s=>by kernel_rfl
theorem frEq:∀ P,frAs=(frag P).map (·.1):=fun _=>by kernel_rfl
theorem l499:∀ (w:PySem.World),(fun (os:PySem.OsState)=>PySem.W.staticsOk (PySem.importedModules PP.main.body) (PySem.W.boot_heap w.params) (heap_492 w.params)&&PySem.W.namesBound PP (heap_492 w.params)&&PySem.W.gensDone (FSh w os)&&PySem.W.laidKept (PySem.W.boot_heap w.params) (heap_492 w.params))=fun (os:PySem.OsState)=>Bool.true:=by intro w; rw [tePP,W.Fast.te5923862056798008813]; kernel_rfl
theorem l501:∀ (w:PySem.World),(fun (os:PySem.OsState)=>PyProof.Rows.seen (List.map (fun (x:PySem.DefRec)=>x.name) (PyProof.Rows.recsOf view)) (PyProof.Rows.ownsOf view) [] (FSh w os))=fun (os:PySem.OsState)=>PyProof.Rows.expectedOf view:=by intro w; rw [teV,W.Fast.te5160383126252970620,W.Fast.te3399658132070893891,W.Fast.te5991557255702980513]; kernel_rfl
theorem l503:∀ (w:PySem.World),(fun (os:PySem.OsState)=>(FSh w os).heap.bltView)=fun (os:PySem.OsState)=>PySem.bltViewBooted:=by intro w; kernel_rfl
theorem l505:∀ (w:PySem.World),(fun (os:PySem.OsState)=>(FSh w os).heap.keysOk (PySem.W.looseW view LL) (List.map (fun (x:PySem.DefRec)=>x.name) (PyProof.Rows.recsOf view)) (List.map (fun (x:PySem.Str×PySem.PyData)=>x.fst) (PyProof.Rows.litsOf view)) (List.map (fun (x:PySem.ClsRec)=>x.name) (PyProof.Rows.clssOf view (PySem.W.looseW view LL)))&&(FSh w os).heap.accountedOkI (PySem.importedModules PP.main.body)&&(FSh w os).heap.isNs PySem.mainGlobals&&(FSh w os).heap.isNs PySem.builtinsNs&&PyProof.Rows.tablesOk view (FSh w os).heap&&(fun (s:PySem.Shared)=>PySem.W.xlAt view [] s&&PySem.W.recOk PySem.Challenge.rw_pq0755_01.row.records s) (FSh w os)&&if Bool.true=Bool.true then (FSh w os).gens.size == 0 else !PySem.leftWithCleanup (FSh w os).gens)=fun (os:PySem.OsState)=>Bool.true:=by intro w; rw [tePP,teV,W.Fast.te10880121769531294198,W.Fast.te821141287760084731,W.Fast.te3399658132070893891,W.Fast.te7409074990110511671,W.Fast.te13664370479719496447,W.Fast.te14722251495701143533,W.Fast.te5923862056798008813,W.Fast.te10994771534591457954]; kernel_rfl
theorem l507:∀ (w:PySem.World),(fun (os:PySem.OsState)=>PyProof.Rows.tabsOk view (FSh w os))=fun (os:PySem.OsState)=>Bool.true:=by intro w; rw [teV,W.Fast.te479339242167458305]; kernel_rfl
theorem l509:∀ (w:PySem.World),(fun (os:PySem.OsState)=>PySem.pinSeenD view (PyProof.Rows.drecsOf view) (FSh w os))=fun (os:PySem.OsState)=>PySem.pinGoodD (PyProof.Rows.drecsOf view):=by intro w; rw [teV,W.Fast.te16090120013241838585,W.Fast.te3247288618530077131]; kernel_rfl
theorem l511:∀ (w:PySem.World),(fun (os:PySem.OsState)=>PyProof.Rows.plainSeenE view (PySem.W.looseW view LL) (FSh w os))=fun (os:PySem.OsState)=>PyProof.Rows.plainGoodE view (PySem.W.looseW view LL):=by intro w; rw [teV,W.Fast.te2386780881361962483,W.Fast.te821141287760084731]; kernel_rfl
theorem l513:∀ (w:PySem.World),(fun (os:PySem.OsState)=>PyProof.Rows.plainSeenD view LL (FSh w os))=fun (os:PySem.OsState)=>PyProof.Rows.plainGoodD view LL:=by intro w; rw [teV,W.Fast.te11698064438423848299]; kernel_rfl
theorem l515:∀ (w:PySem.World),(fun (os:PySem.OsState)=>PySem.W.wideSeen view (FSh w os))=fun (os:PySem.OsState)=>PySem.W.wideGood view:=by intro w; rw [teV,W.Fast.te7317090234206586261]; kernel_rfl
theorem l517:∀ (w:PySem.World),(fun (os:PySem.OsState)=>PySem.W.clsSeenW view LL (FSh w os))=fun (os:PySem.OsState)=>PySem.W.clsGoodW view LL:=by intro w; rw [teV,W.Fast.te7369524293546568484]; kernel_rfl
theorem l527:∀ w:World,(fun os:OsState=>(kHook frag frAs frEq).obs (FSh w os))=fun os:OsState=>(kHook frag frAs frEq).val w:=by intro w; kernel_rfl
end Mine
end
section
namespace Mine
open PySem PySem.W PyProof.Rows PySem.Spec PySem.Calls
noncomputable abbrev XT:Shared→Bool:=fun s=>xlAt view [] s&&recOk PySem.Challenge.rw_pq0755_01.row.records s
theorem hlooks:∀ w:World,(fun os=>((staticsOk (importedModules PP.main.body) (boot_heap w.params) (heap_492 w.params)&&namesBound PP (heap_492 w.params)&&gensDone ⟨heap_492 w.params,⟨[]⟩,{},804,os⟩&&laidKept (boot_heap w.params) (heap_492 w.params)),
    openSeen view LL (importedModules PP.main.body) XT true ⟨heap_492 w.params,⟨[]⟩,{},804,os⟩,(kHook frag frAs frEq).obs ⟨heap_492 w.params,⟨[]⟩,{},804,os⟩))=fun _=>(true,openGood view LL,(kHook frag frAs frEq).val w):=by
 intro w
 funext os
 exact looks_pair (congrFun (l499 w) os) (looks_pair (looks_pair (congrFun (l501 w) os) (looks_pair (congrFun (l503 w) os) (looks_pair (congrFun (l505 w) os) (looks_pair (congrFun (l507 w) os) (looks_pair (congrFun (l509 w) os) (looks_pair (congrFun (l511 w) os) (looks_pair (congrFun (l513 w) os) (looks_pair (congrFun (l515 w) os) (congrFun (l517 w) os))))))))) (congrFun (l527 w) os))
theorem hleft:LeftO PP view LL XT (kHook frag frAs frEq).obs (kHook frag frAs frEq).val 6150 true:=
 LeftO.of_pieces (H₀:=boot_heap) (H₁:=heap_492) (gs₀:=⟨[]⟩) (gs₁:=⟨[]⟩) (d₀:=boot_drawn) (d₁:={}) (k₀:=boot_toks) (k₁:=804) (boot_open e42 (by decide) e43) hsize hrun (by decide) hlooks
end Mine
end
section
namespace Mine
open PySem PySem.W PyProof.Rows PySem.Spec PySem.Calls
noncomputable def RT:OpenLaw:={ PySem.Challenge.rw_pq0755_01 with prog:=PT,name:=a137,about:=[a127] }
theorem teR:PySem.Challenge.rw_pq0755_01=RT:=by
 unfold RT
 rw [← tePP,← ea33,← ea40]
 rfl
theorem said:PySem.Challenge.rw_pq0755_01.wellSaid=true:=by
 unfold OpenLaw.wellSaid
 repeat' (first | with_reducible refine look_both ?_ ?_ | (with_reducible show OpenRow.wellSaid _=true; unfold OpenRow.wellSaid) | (with_reducible show OpenRow.partSaid _=true; unfold OpenRow.partSaid) | (with_reducible show looksOpen _=true; unfold looksOpen))
 ·rw [teR,W.Fast.te11788848310118352699,W.Fast.te2368527892694137696]; decide +kernel
 ·rw [teR,W.Fast.te9807087744658564304,W.Fast.te2368527892694137696,W.Fast.te12862048085361865435]; decide +kernel
 ·rw [teR,W.Fast.te8377067652309620493,W.Fast.te2368527892694137696]; decide +kernel
 ·rw [teR,W.Fast.te18344453789297297638,W.Fast.te2368527892694137696,W.Fast.te3471404346716756564,W.Fast.te14412699480532031325]; decide +kernel
 ·rw [teR,W.Fast.te8326940854005059898,W.Fast.te5923862056798008813,W.Fast.te2368527892694137696,W.Fast.te3471404346716756564,W.Fast.te17691160309236699985,W.Fast.te13343964577679436407]; decide +kernel
 ·rw [teR,W.Fast.te17119622794617984870,W.Fast.te2368527892694137696,W.Fast.te17868728402115742887]; decide +kernel
 ·rw [teR,W.Fast.te2368527892694137696]; decide +kernel
 ·rw [teR,W.Fast.te2368527892694137696]; decide +kernel
 ·rw [teR,W.Fast.te2368527892694137696]; decide +kernel
 ·rw [teR,W.Fast.te2368527892694137696,W.Fast.te3471404346716756564,W.Fast.te18344453789297297638,W.Fast.te2357444279172408678]; decide +kernel
 ·rw [teR,W.Fast.te2368527892694137696]; decide +kernel
 ·rw [teR,W.Fast.te2368527892694137696,W.Fast.te4857012375875476094,W.Fast.te3471404346716756564,W.Fast.te18344453789297297638]; decide +kernel
 ·rw [teR,W.Fast.te13582783067957832011,W.Fast.te2368527892694137696]; decide +kernel
 ·rw [teR,W.Fast.te5318747976498570220,W.Fast.te2368527892694137696]; decide +kernel
 ·rw [teR,W.Fast.te5318747976498570220,W.Fast.te2368527892694137696]; decide +kernel
 ·rw [teR,W.Fast.te2368527892694137696,W.Fast.te5318747976498570220]; decide +kernel
 ·rw [teR,W.Fast.te2368527892694137696,W.Fast.te4274047373036748609]; decide +kernel
 ·rw [teR,W.Fast.te2368527892694137696]; decide +kernel
 ·rw [teR,W.Fast.te2368527892694137696]; decide +kernel
 ·rw [teR,W.Fast.te3471404346716756564,W.Fast.te18344453789297297638,W.Fast.te2368527892694137696]; decide +kernel
 ·rw [teR,W.Fast.te3471404346716756564,W.Fast.te12749700546528644094,W.Fast.te2368527892694137696]; decide +kernel
 ·rw [teR]; decide +kernel
 ·rw [teR,W.Fast.te10501279942588096481]; decide +kernel
 ·rw [teR,W.Fast.te8179353310426384613]; decide +kernel
 ·rw [teR]; decide +kernel
 ·rw [teR]; decide +kernel
 ·rw [teR,W.Fast.te8326940854005059898,W.Fast.te797321630700447069,W.Fast.te9572597257264208301]; decide +kernel
 ·rw [teR,W.Fast.te9558739934217749035]; decide +kernel
 ·rw [teR,W.Fast.te16286561074155671207]; decide +kernel
 ·rw [teR]; decide +kernel
 ·rw [teR,W.Fast.te797321630700447069,W.Fast.te6984425678791042302]; decide +kernel
 ·rw [teR,W.Fast.te17095254045102204799,W.Fast.te12879404354523853263,W.Fast.te6984425678791042302]; decide +kernel
 ·rw [teR,W.Fast.te17095254045102204799,W.Fast.te12879404354523853263,W.Fast.te6984425678791042302,W.Fast.te482687673346738481]; decide +kernel
 ·rw [teR,W.Fast.te17119622794617984870,W.Fast.te3471404346716756564,W.Fast.te9572597257264208301]; decide +kernel
 ·rw [teR,W.Fast.te3471404346716756564,W.Fast.te10792542408131684335]; decide +kernel
 ·rw [teR,W.Fast.te7723801398212525404,W.Fast.te10792542408131684335]; decide +kernel
 ·rw [teR,W.Fast.te10792542408131684335]; decide +kernel
 ·rw [teR,W.Fast.te17119622794617984870,W.Fast.te3471404346716756564,W.Fast.te10792542408131684335]; decide +kernel
 ·rw [teR,W.Fast.te17119622794617984870]; decide +kernel
noncomputable def dLaw:DefRec:=match defOf viewT a137 with
 | some x=>x.1
 | none=>⟨a137,⟨[],[],none,[],[],none,[]⟩,[],PT.main.scope,P0⟩
theorem hdef:defOf view PySem.Challenge.rw_pq0755_01.row.name=some (dLaw,[]):=by
 rw [teV]; show defOf viewT (Str.ofString "law")=_; rw [ea33]; kernel_rfl
theorem hpd:PySem.Challenge.rw_pq0755_01.row.prog.theDef PySem.Challenge.rw_pq0755_01.row.name=some (dLaw.params,dLaw.body,dLaw.scope):=by
 rw [teR,W.Fast.te2368527892694137696]; kernel_rfl
theorem hkw:kwWritten? dLaw.params.kwonlyargs dLaw.params.kw_defaults=some []:=by kernel_rfl
theorem hok:(chainsOk view&&opensWell PySem.Challenge.rw_pq0755_01.row.prog&&(frees PySem.Challenge.rw_pq0755_01.row.toRowW&&PySem.Challenge.rw_pq0755_01.row.within.isEmpty))=true:=by
 rw [teV,teR,W.Fast.te2368527892694137696]; kernel_rfl
theorem htb:PySem.Challenge.rw_pq0755_01.row.prog.tablesWhole=true:=by
 rw [teR,W.Fast.te2368527892694137696]; kernel_rfl
theorem holdsOf (call:WalkO view LL (XL view []) (kHook frag frAs frEq).says PySem.Challenge.rw_pq0755_01.row.toRowW dLaw [] fun f vs=>PySem.call f vs):PySem.Challenge.rw_pq0755_01.Holds:=
 holds_law said fun sd=>holds_open (q:=view) (loose:=LL) (Xt:=XT) (XP:=XL view []) hleft (kHook frag frAs frEq).of (kHook frag frAs frEq).keeps (fun s e=>xl_of s (Bool.and_eq_true_iff.mp e).1) XL.keeps hdef hpd hkw
  (fun s e=>recFacts_of (Bool.and_eq_true_iff.mp e).2) rfl sd hok ⟨rfl,rfl,rfl,rfl,rfl,htb⟩ ⟨[WData.list []],by decide +kernel,by decide +kernel⟩ call
end Mine
end
theorem Mine.dmy (w:PySem.World) (h:PySem.Heap):(Mine.frag w.params).In h→PySem.Challenge.rw_pq0755_01.name=PySem.Challenge.rw_pq0755_01.name:=by k_fill; intro _; rfl
namespace Mine
inductive NE where
 | v (k:Nat)
 | n (k:Nat)
 | p (x y:NE)
 | m (k:Nat) (x:NE)
 | r (x:NE) (k:Nat)
inductive IE where
 | w (k:Nat)
 | z (k:Int)
 | t (x:NE)
 | q (x y:IE)
 | s (x y:IE)
 | o (k:Int) (x:IE)
 | u (x:IE) (k:Int)
 | ng (x:IE)
inductive FA where
 | a (x y:NE)
 | b (x y:NE)
 | c (x y:NE)
 | d (x y:IE)
 | e (x y:IE)
 | f (x y:IE)
 | g (x:FA)
noncomputable def NE.d (ns:List Nat):NE→Nat
 | .v k=>ns.getD k 0
 | .n k=>k
 | .p x y=>x.d ns+y.d ns
 | .m k x=>k*x.d ns
 | .r x k=>x.d ns*k
noncomputable def IE.d (ns:List Nat) (is:List Int):IE→Int
 | .w k=>is.getD k 0
 | .z k=>k
 | .t x=>((x.d ns:Nat):Int)
 | .q x y=>x.d ns is+y.d ns is
 | .s x y=>x.d ns is-y.d ns is
 | .o k x=>k*x.d ns is
 | .u x k=>x.d ns is*k
 | .ng x=>-x.d ns is
noncomputable def FA.D (ns:List Nat) (is:List Int):FA→Prop
 | .a x y=>x.d ns≤y.d ns
 | .b x y=>x.d ns<y.d ns
 | .c x y=>x.d ns=y.d ns
 | .d x y=>x.d ns is≤y.d ns is
 | .e x y=>x.d ns is<y.d ns is
 | .f x y=>x.d ns is=y.d ns is
 | .g x=>¬ x.D ns is
noncomputable abbrev PL:=List Int×List Int×Int
noncomputable def addL:List Int→List Int→List Int
 | [],y=>y
 | x,[]=>x
 | a::x,b::y=>(a+b)::addL x y
noncomputable def PL.add (x y:PL):PL:=(addL x.1 y.1,addL x.2.1 y.2.1,x.2.2+y.2.2)
noncomputable def PL.mul (k:Int) (x:PL):PL:=(x.1.map (k*·),x.2.1.map (k*·),k*x.2.2)
noncomputable def unit:Nat→List Int
 | 0=>[1]
 | k+1=>0::unit k
noncomputable def NE.P:NE→PL
 | .v k=>(unit k,[],0)
 | .n k=>([],[],k)
 | .p x y=>x.P.add y.P
 | .m k x=>x.P.mul k
 | .r x k=>x.P.mul k
noncomputable def IE.P:IE→PL
 | .w k=>([],unit k,0)
 | .z k=>([],[],k)
 | .t x=>x.P
 | .q x y=>x.P.add y.P
 | .s x y=>x.P.add (y.P.mul (-1))
 | .o k x=>x.P.mul k
 | .u x k=>x.P.mul k
 | .ng x=>x.P.mul (-1)
noncomputable def sub1 (x y:PL) (k:Int):PL:=(x.add (y.mul (-1))).add ([],[],k)
noncomputable def FA.N:FA→PL×Bool
 | .a x y=>(sub1 x.P y.P 0,false)
 | .b x y=>(sub1 x.P y.P 1,false)
 | .c x y=>(sub1 x.P y.P 0,true)
 | .d x y=>(sub1 x.P y.P 0,false)
 | .e x y=>(sub1 x.P y.P 1,false)
 | .f x y=>(sub1 x.P y.P 0,true)
 | .g (.a x y)=>(sub1 y.P x.P 1,false)
 | .g (.b x y)=>(sub1 y.P x.P 0,false)
 | .g (.d x y)=>(sub1 y.P x.P 1,false)
 | .g (.e x y)=>(sub1 y.P x.P 0,false)
 | .g _=>(([],[],0),true)
noncomputable def comb:List FA→List Int→Option PL
 | [],_=>some ([],[],0)
 | f::fs,c::cs=>if f.N.2||decide (0≤c) then (comb fs cs).map fun p=>(f.N.1.mul c).add p else none
 | _::_,[]=>some ([],[],0)
noncomputable def chk (fs:List FA) (cs:List Int):Bool:=match comb fs cs with
 | some p=>p.1.all (fun x=>decide (0≤x))&&p.2.1.all (fun x=>decide (x=0))&&decide (0<p.2.2)
 | none=>false
noncomputable def dotN:List Int→List Nat→Int
 | a::x,n::ns=>a*n+dotN x ns
 | _,_=>0
noncomputable def dotI:List Int→List Int→Int
 | a::x,n::ns=>a*n+dotI x ns
 | _,_=>0
noncomputable def PL.V (ns:List Nat) (is:List Int) (p:PL):Int:=dotN p.1 ns+dotI p.2.1 is+p.2.2
theorem swap4 (a b c d:Int):a+b+(c+d)=a+c+(b+d):=by rw [Int.add_assoc,Int.add_left_comm b,← Int.add_assoc]
theorem dotN_add:∀ (x y:List Int) ns,dotN (addL x y) ns=dotN x ns+dotN y ns
 | [],y,[]=>(Int.zero_add _).symm
 | [],y,n::ns=>(Int.zero_add _).symm
 | a::x,[],ns=>(Int.add_zero _).symm
 | a::x,b::y,[]=>rfl
 | a::x,b::y,n::ns=>by
  show (a+b)*n+dotN (addL x y) ns=a*n+dotN x ns+(b*n+dotN y ns)
  rw [dotN_add x y ns,Int.add_mul,swap4]
theorem dotI_add:∀ (x y:List Int) ns,dotI (addL x y) ns=dotI x ns+dotI y ns
 | [],y,[]=>(Int.zero_add _).symm
 | [],y,n::ns=>(Int.zero_add _).symm
 | a::x,[],ns=>(Int.add_zero _).symm
 | a::x,b::y,[]=>rfl
 | a::x,b::y,n::ns=>by
  show (a+b)*n+dotI (addL x y) ns=a*n+dotI x ns+(b*n+dotI y ns)
  rw [dotI_add x y ns,Int.add_mul,swap4]
theorem dotN_mul (k:Int):∀ (x:List Int) ns,dotN (x.map (k*·)) ns=k*dotN x ns
 | [],[]=>(Int.mul_zero k).symm
 | [],_::_=>(Int.mul_zero k).symm
 | a::x,[]=>(Int.mul_zero k).symm
 | a::x,n::ns=>by
  show k*a*n+dotN (x.map (k*·)) ns=k*(a*n+dotN x ns)
  rw [dotN_mul k x ns,Int.mul_add,Int.mul_assoc]
theorem dotI_mul (k:Int):∀ (x:List Int) ns,dotI (x.map (k*·)) ns=k*dotI x ns
 | [],[]=>(Int.mul_zero k).symm
 | [],_::_=>(Int.mul_zero k).symm
 | a::x,[]=>(Int.mul_zero k).symm
 | a::x,n::ns=>by
  show k*a*n+dotI (x.map (k*·)) ns=k*(a*n+dotI x ns)
  rw [dotI_mul k x ns,Int.mul_add,Int.mul_assoc]
section
variable (ns:List Nat) (is:List Int)
theorem V_add (x y:PL):(x.add y).V ns is=x.V ns is+y.V ns is:=by
 show dotN (addL _ _) ns+dotI (addL _ _) is+(_+_)=_
 rw [dotN_add,dotI_add,swap4 (dotN x.1 ns),swap4]; rfl
theorem V_mul (k:Int) (x:PL):(x.mul k).V ns is=k*x.V ns is:=by
 show dotN (List.map _ _) ns+dotI (List.map _ _) is+k*x.2.2=_
 rw [dotN_mul,dotI_mul,← Int.mul_add,← Int.mul_add]; rfl
theorem dotN_unit:∀ k (ns:List Nat),dotN (unit k) ns=((ns.getD k 0:Nat):Int)
 | 0,[]=>rfl
 | 0,n::ns=>by
  show 1*(n:Int)+dotN [] ns=n
  cases ns <;> exact (Int.add_zero _).trans (Int.one_mul _)
 | k+1,[]=>rfl
 | k+1,n::ns=>by
  show 0*(n:Int)+dotN (unit k) ns=_
  rw [dotN_unit k ns,Int.zero_mul,Int.zero_add]; rfl
theorem dotI_unit:∀ k (ns:List Int),dotI (unit k) ns=ns.getD k 0
 | 0,[]=>rfl
 | 0,n::ns=>by
  show 1*n+dotI [] ns=n
  cases ns <;> exact (Int.add_zero _).trans (Int.one_mul _)
 | k+1,[]=>rfl
 | k+1,n::ns=>by
  show 0*n+dotI (unit k) ns=_
  rw [dotI_unit k ns,Int.zero_mul,Int.zero_add]; rfl
theorem nil_N:dotN [] ns=0:=by cases ns <;> rfl
theorem nil_I:dotI [] is=0:=by cases is <;> rfl
theorem NE.ok:∀ x:NE,x.P.V ns is=((x.d ns:Nat):Int)
 | .v k=>by show dotN (unit k) ns+dotI [] is+0=_; rw [dotN_unit,nil_I]; exact Int.add_zero _
 | .n k=>by show dotN [] ns+dotI [] is+(k:Int)=_; rw [nil_N,nil_I]; exact Int.zero_add _
 | .p x y=>(V_add ns is x.P y.P).trans (by rw [NE.ok x,NE.ok y]; rfl)
 | .m k x=>(V_mul ns is k x.P).trans (by rw [NE.ok x]; rfl)
 | .r x k=>(V_mul ns is k x.P).trans (by rw [NE.ok x,Int.mul_comm]; rfl)
theorem IE.ok:∀ x:IE,x.P.V ns is=x.d ns is
 | .w k=>by show dotN [] ns+dotI (unit k) is+0=_; rw [nil_N,dotI_unit]; exact (Int.add_zero _).trans (Int.zero_add _)
 | .z k=>by show dotN [] ns+dotI [] is+k=_; rw [nil_N,nil_I]; exact Int.zero_add _
 | .t x=>NE.ok ns is x
 | .q x y=>(V_add ns is x.P y.P).trans (by rw [IE.ok x,IE.ok y]; rfl)
 | .s x y=>(V_add ns is x.P (y.P.mul (-1))).trans (by rw [V_mul,IE.ok x,IE.ok y,Int.neg_mul,Int.one_mul]; rfl)
 | .o k x=>(V_mul ns is k x.P).trans (by rw [IE.ok x]; rfl)
 | .u x k=>(V_mul ns is k x.P).trans (by rw [IE.ok x,Int.mul_comm]; rfl)
 | .ng x=>(V_mul ns is (-1) x.P).trans (by rw [IE.ok x,Int.neg_mul,Int.one_mul]; rfl)
theorem sub1_V (x y:PL) (k:Int):(sub1 x y k).V ns is=x.V ns is-y.V ns is+k:=by
 unfold sub1
 rw [V_add,V_add,V_mul]
 show _+(dotN [] ns+dotI [] is+k)=_
 rw [nil_N,nil_I]; lia
theorem FA.ok (f:FA) (h:f.D ns is):f.N.1.V ns is≤0∧(f.N.2=true→f.N.1.V ns is=0):=by
 have z:PL.V ns is ([],[],0)=0:=by show dotN [] ns+dotI [] is+0=0; rw [nil_N,nil_I]; rfl
 match f,h with
 | .a x y,h=>have h:x.d ns≤y.d ns:=h; refine ⟨?_,nofun⟩; show (sub1 x.P y.P 0).V ns is≤0; rw [sub1_V,NE.ok,NE.ok]; lia
 | .b x y,h=>have h:x.d ns<y.d ns:=h; refine ⟨?_,nofun⟩; show (sub1 x.P y.P 1).V ns is≤0; rw [sub1_V,NE.ok,NE.ok]; lia
 | .c x y,h=>have h:x.d ns=y.d ns:=h; show (sub1 x.P y.P 0).V ns is≤0∧(true=true→(sub1 x.P y.P 0).V ns is=0); rw [sub1_V,NE.ok,NE.ok]; lia
 | .d x y,h=>have h:x.d ns is≤y.d ns is:=h; refine ⟨?_,nofun⟩; show (sub1 x.P y.P 0).V ns is≤0; rw [sub1_V,IE.ok,IE.ok]; lia
 | .e x y,h=>have h:x.d ns is<y.d ns is:=h; refine ⟨?_,nofun⟩; show (sub1 x.P y.P 1).V ns is≤0; rw [sub1_V,IE.ok,IE.ok]; lia
 | .f x y,h=>have h:x.d ns is=y.d ns is:=h; show (sub1 x.P y.P 0).V ns is≤0∧(true=true→(sub1 x.P y.P 0).V ns is=0); rw [sub1_V,IE.ok,IE.ok]; lia
 | .g (.a x y),h=>have h:¬ x.d ns≤y.d ns:=h; refine ⟨?_,nofun⟩; show (sub1 y.P x.P 1).V ns is≤0; rw [sub1_V,NE.ok,NE.ok]; lia
 | .g (.b x y),h=>have h:¬ x.d ns<y.d ns:=h; refine ⟨?_,nofun⟩; show (sub1 y.P x.P 0).V ns is≤0; rw [sub1_V,NE.ok,NE.ok]; lia
 | .g (.d x y),h=>have h:¬ x.d ns is≤y.d ns is:=h; refine ⟨?_,nofun⟩; show (sub1 y.P x.P 1).V ns is≤0; rw [sub1_V,IE.ok,IE.ok]; lia
 | .g (.e x y),h=>have h:¬ x.d ns is<y.d ns is:=h; refine ⟨?_,nofun⟩; show (sub1 y.P x.P 0).V ns is≤0; rw [sub1_V,IE.ok,IE.ok]; lia
 | .g (.c _ _),_=>exact ⟨Int.le_of_eq z,fun _=>z⟩
 | .g (.f _ _),_=>exact ⟨Int.le_of_eq z,fun _=>z⟩
 | .g (.g _),_=>exact ⟨Int.le_of_eq z,fun _=>z⟩
theorem comb_ok:∀ (fs:List FA) (cs:List Int) p,(∀ f∈fs,f.D ns is)→comb fs cs=some p→p.V ns is≤0
 | [],_,p,_,h=>by
  cases h
  show dotN [] ns+dotI [] is+0≤0
  rw [nil_N,nil_I]; lia
 | _::_,[],p,_,h=>by
  cases h
  show dotN [] ns+dotI [] is+0≤0
  rw [nil_N,nil_I]; lia
 | f::fs,c::cs,p,hf,h=>by
  unfold comb at h
  split at h
  ·rename_i hc
   obtain ⟨q,hq,rfl⟩:=Option.map_eq_some_iff.mp h
   have h1:=comb_ok fs cs q (fun g hg=>hf g (.tail _ hg)) hq
   obtain ⟨h2,h3⟩:=f.ok ns is (hf f (.head _))
   rw [V_add,V_mul]
   have h4:c*f.N.1.V ns is≤0:=by
    rcases Bool.or_eq_true_iff.mp hc with e | e
    ·rw [h3 e,Int.mul_zero]; lia
    ·exact Int.mul_nonpos_of_nonneg_of_nonpos (of_decide_eq_true e) h2
   lia
  ·cases h
theorem dotN_nonneg:∀ (x:List Int) (ns:List Nat),(∀ a∈x,0≤a)→0≤dotN x ns
 | [],ns,_=>by rw [nil_N]; lia
 | a::x,[],_=>Int.le_refl _
 | a::x,n::ns,h=>Int.add_nonneg (Int.mul_nonneg (h a (.head _)) (Int.natCast_nonneg n)) (dotN_nonneg x ns fun b hb=>h b (.tail _ hb))
theorem dotI_zero:∀ (x:List Int) (is:List Int),(∀ a∈x,a=0)→dotI x is=0
 | [],is,_=>nil_I is
 | a::x,[],_=>rfl
 | a::x,n::is,h=>by
  show a*n+dotI x is=0
  rw [h a (.head _),dotI_zero x is fun b hb=>h b (.tail _ hb),Int.zero_mul]; rfl
theorem farL (fs:List FA) (cs:List Int) (h:∀ f∈fs,f.D ns is) (k:chk fs cs=true):False:=by
 unfold chk at k
 cases e:comb fs cs with
 | none=>rw [e] at k; cases k
 | some p=>
  rw [e] at k
  have k:(p.1.all (fun x=>decide (0≤x))&&p.2.1.all (fun x=>decide (x=0))&&decide (0<p.2.2))=true:=k
  rw [Bool.and_eq_true,Bool.and_eq_true,List.all_eq_true,List.all_eq_true] at k
  have h1:=comb_ok ns is fs cs p h e
  have h2:=dotN_nonneg p.1 ns fun a ha=>of_decide_eq_true (k.1.1 a ha)
  have h3:=dotI_zero p.2.1 is fun a ha=>of_decide_eq_true (k.1.2 a ha)
  have h4:=of_decide_eq_true k.2
  unfold PL.V at h1
  lia
end
theorem ns1 (a b:Nat):a≤a-b+b:=Nat.sub_le_iff_le_add.mp (Nat.le_refl _)
theorem ns2 {a b:Nat} (h:b≤a):a-b+b=a:=Nat.sub_add_cancel h
theorem nd1 (a b:Nat):a / b*b≤a:=Nat.div_mul_le_self a b
theorem nd2 (a b:Nat) (h:Nat.ble 1 b=true):a<a / b*b+b:=Nat.lt_div_mul_add (Nat.le_of_ble_eq_true h)
theorem nm1 (a b:Nat) (h:Nat.ble 1 b=true):a % b<b:=Nat.mod_lt a (Nat.le_of_ble_eq_true h)
theorem nm2 (a b:Nat):b*(a / b)+a % b=a:=Nat.div_add_mod a b
theorem it1 (x:Int):x≤(x.toNat:Nat):=Int.self_le_toNat x
theorem it2 {x:Int} (h:0≤x):((x.toNat:Nat):Int)=x:=Int.toNat_of_nonneg h
theorem im1 (a b:Int) (h:decide (0<b)=true):0≤a % b:=Int.emod_nonneg a (Int.ne_of_gt (of_decide_eq_true h))
theorem im2 (a b:Int) (h:decide (0<b)=true):a % b<b:=Int.emod_lt_of_pos a (of_decide_eq_true h)
theorem im3 (a b:Int):b*(a / b)+a % b=a:=Int.mul_ediv_add_emod a b
abbrev Z0:NE:=.v 0
abbrev Z1:NE:=.v 1
abbrev Z2:NE:=.v 2
abbrev Z3:NE:=.v 3
abbrev Z4:NE:=.v 4
abbrev Z5:NE:=.v 5
abbrev Z6:NE:=.v 6
abbrev Z7:NE:=.v 7
abbrev Z8:NE:=.v 8
abbrev Z9:NE:=.v 9
abbrev Y0:IE:=.w 0
abbrev Y1:IE:=.w 1
abbrev Y2:IE:=.w 2
abbrev Y3:IE:=.w 3
abbrev Y4:IE:=.w 4
abbrev Y5:IE:=.w 5
abbrev X0:IE:=.t Z0
abbrev X1:IE:=.t Z1
abbrev X2:IE:=.t Z2
abbrev X3:IE:=.t Z3
abbrev X4:IE:=.t Z4
noncomputable def FAs (ns:List Nat) (is:List Int):List FA→Prop
 | []=>True
 | f::fs=>f.D ns is∧FAs ns is fs
theorem FAs.all {ns:List Nat} {is:List Int}:∀ {fs:List FA},FAs ns is fs→∀ f∈fs,f.D ns is
 | _::_,⟨h,_⟩,_,.head _=>h
 | _::_,⟨_,h⟩,_,.tail _ q=>FAs.all h _ q
theorem fm {ns:List Nat} {is:List Int} {f:FA} {fs:List FA} (h:f.D ns is) (k:FAs ns is fs):FAs ns is (f::fs):=⟨h,k⟩
theorem fz {ns:List Nat} {is:List Int}:FAs ns is []:=trivial
theorem far (ns:List Nat) (is:List Int) (g:FA) (fs:List FA) (cs:List Int) (h:FAs ns is fs) (k:chk (.g g::fs) cs=true):g.D ns is:=Classical.byContradiction fun n=>farL ns is (.g g::fs) cs (fun f hf=>(List.mem_cons.mp hf).elim (fun e=>e ▸ n) fun hf=>FAs.all h f hf) k
theorem farF (ns:List Nat) (is:List Int) (fs:List FA) (cs:List Int) (h:FAs ns is fs) (k:chk fs cs=true):False:=farL ns is fs cs (FAs.all h) k
end Mine
namespace Mine
open PySem PySem.W PyProof.Rows PySem.Spec PySem.Calls
inductive VS where
 | int (k:Int)
 | ref (a:Addr)
 | bool (b:Bool)
 | none
 | is (v:Value)
 | str (s:Str)
 | any
noncomputable def VS.ok:VS→Option Value→Prop
 | .int k,o=>∃ t,o=some (.int k t)
 | .ref a,o=>o=some (.ref a)
 | .bool b,o=>o=some (.bool b)
 | .none,o=>o=some .none
 | .is v,o=>o=some v
 | .str k,o=>∃ t,o=some (.str k t)
 | .any,_=>True
noncomputable def VS.all:VS→(Value→Prop)→Prop
 | .int k,P=>∀ t,P (.int k t)
 | .ref a,P=>P (.ref a)
 | .bool b,P=>P (.bool b)
 | .none,P=>P .none
 | .is v,P=>P v
 | .str k,P=>∀ t,P (.str k t)
 | .any,_=>False
theorem VS.all_of {v:VS} {P:Value→Prop} (h:v.all P) {o:Option Value} (k:v.ok o):∃ u,o=some u∧P u:=by
 cases v with
 | int i=>obtain ⟨t,rfl⟩:=k; exact ⟨_,rfl,h t⟩
 | ref a=>exact ⟨_,k,h⟩
 | bool a=>exact ⟨_,k,h⟩
 | none=>exact ⟨_,k,h⟩
 | is a=>exact ⟨_,k,h⟩
 | str i=>obtain ⟨t,rfl⟩:=k; exact ⟨_,rfl,h t⟩
 | any=>exact h.elim
theorem VS.all_mono2 {v:VS} {P P':Value→Prop} (h:v.all P) (k:∀ u,v.ok (some u)→P u→P' u):v.all P':=by
 cases v <;> first | exact k _ rfl h | exact fun t=>k _ ⟨t,rfl⟩ (h t) | exact h.elim
noncomputable def oks:List VS→List Value→Prop
 | [],[]=>True
 | v::vs,x::xs=>v.ok (some x)∧oks vs xs
 | _,_=>False
theorem nA {a b c:Nat} (h:a≤b) (k:Nat.ble b c=true):a≤c:=Nat.le_trans h (Nat.le_of_ble_eq_true k)
theorem nB {a b c:Nat} (h:a<b) (k:Nat.ble b c=true):a<c:=nA h k
theorem nC {a b c:Nat} (h:a<b) (k:Nat.ble b (c+1)=true):a≤c:=Nat.le_of_lt_succ (nA h k)
theorem nD {a b c:Nat} (h:a≤b) (k:Nat.ble (b+1) c=true):a<c:=nA (Nat.succ_le_succ h) k
theorem oksC_nil {us:List Value} (h:oks [] us):us=[]:=by cases us with | nil=>rfl | cons=>exact h.elim
theorem oksC_ref {a:Addr} {vs:List VS} {us:List Value} (h:oks (.ref a::vs) us):∃ r,us=.ref a::r∧oks vs r:=by
 cases us with
 | nil=>exact h.elim
 | cons u r=>exact ⟨r,congrArg (·::r) (Option.some.inj h.1),h.2⟩
theorem oksC_int {x:Int} {vs:List VS} {us:List Value} (h:oks (.int x::vs) us):∃ t r,us=.int x t::r∧oks vs r:=by
 cases us with
 | nil=>exact h.elim
 | cons u r=>
  obtain ⟨⟨t,e⟩,h⟩:=h
  exact ⟨t,r,congrArg (·::r) (Option.some.inj e),h⟩
theorem oksC_str {x:Str} {vs:List VS} {us:List Value} (h:oks (.str x::vs) us):∃ t r,us=.str x t::r∧oks vs r:=by
 cases us with
 | nil=>exact h.elim
 | cons u r=>
  obtain ⟨⟨t,e⟩,h⟩:=h
  exact ⟨t,r,congrArg (·::r) (Option.some.inj e),h⟩
theorem oks1 {v:VS} {us:List Value} (h:oks [v] us):∃ u,us=[u]∧v.ok (some u):=by
 cases us with
 | nil=>exact h.elim
 | cons u r=>exact ⟨u,congrArg _ (oksC_nil h.2),h.1⟩
theorem len1 {α:Type} {xs:List α} (h:xs.length=1):∃ a,xs=[a]:=List.length_eq_one_iff.mp h
theorem len2 {α:Type} {xs:List α} (h:xs.length=2):∃ a b,xs=[a,b]:=by
 cases xs with
 | nil=>cases h
 | cons a r=>exact let ⟨b,e⟩:=len1 (Nat.succ.inj h); ⟨a,b,congrArg _ e⟩
theorem oksR {a:Addr} {us:List Value} (h:oks [.ref a] us):us=[.ref a]:=let ⟨_,e,h⟩:=oksC_ref h; e.trans (congrArg _ (oksC_nil h))
theorem oksI {x:Int} {us:List Value} (h:oks [.int x] us):∃ t,us=[.int x t]:=let ⟨t,_,e,h⟩:=oksC_int h; ⟨t,e.trans (congrArg _ (oksC_nil h))⟩
theorem oksRI {a:Addr} {x:Int} {us:List Value} (h:oks [.ref a,.int x] us):∃ t,us=[.ref a,.int x t]:=let ⟨_,e,h⟩:=oksC_ref h; let ⟨t,h⟩:=oksI h; ⟨t,e.trans (congrArg _ h)⟩
theorem oksII {x y:Int} {us:List Value} (h:oks [.int x,.int y] us):∃ t t',us=[.int x t,.int y t']:=let ⟨t,_,e,h⟩:=oksC_int h; let ⟨t',h⟩:=oksI h; ⟨t,t',e.trans (congrArg _ h)⟩
theorem oksIII {x y z:Int} {us:List Value} (h:oks [.int x,.int y,.int z] us):∃ t t' t2,us=[.int x t,.int y t',.int z t2]:=let ⟨t,_,e,h⟩:=oksC_int h; let ⟨t',t2,h⟩:=oksII h; ⟨t,t',t2,e.trans (congrArg _ h)⟩
theorem oksSI {x:Str} {y:Int} {us:List Value} (h:oks [.str x,.int y] us):∃ t t',us=[.str x t,.int y t']:=let ⟨t,_,e,h⟩:=oksC_str h; let ⟨t',h⟩:=oksI h; ⟨t,t',e.trans (congrArg _ h)⟩
theorem oksRIR {a b:Addr} {x:Int} {us:List Value} (h:oks [.ref a,.int x,.ref b] us):∃ t,us=[.ref a,.int x t,.ref b]:=by
 obtain ⟨_,e1,h1⟩:=oksC_ref h
 obtain ⟨t,_,e2,h2⟩:=oksC_int h1
 exact ⟨t,by rw [e1,e2,oksR h2]⟩
structure nsOk (l:List (Str×VS)) (m:Str→Option Value):Prop where
 has:∀ p∈l,p.2.ok (m p.1)
 nodup:(l.map (·.1)).Nodup
 only:∀ x,x ∉ l.map (·.1)→m x=none
inductive OS where
 | lst (vs:List VS)
 | tup (vs:List VS)
 | ns (l:List (Str×VS))
 | attrs (l:List (Str×VS))
 | inst (C dx:Addr)
 | cell (v:VS)
 | raw (o:Obj)
 | rcd (T:String) (vs:Array Value)
 | dct (P:List DictEntry→Prop)
 | exc (C:Addr) (d:Option Addr)
 | pred (P:Obj→Prop)
noncomputable def OS.ok:OS→Obj→Prop
 | .lst vs,o=>∃ xs n,o={ cls:=.type "list",data:=.seq xs n }∧oks vs xs.toList
 | .tup vs,o=>∃ xs n,o={ cls:=.type "tuple",data:=.seq xs n }∧oks vs xs.toList
 | .ns l,o=>∃ es n,o.data=.dict es n∧StrKeys es∧nsOk l (nsFind es)
 | .attrs l,o=>∃ es n,o.data=.dict es n∧StrKeys es∧es.size≤l.length∧nsOk l (nsFind es)
 | .inst C dx,o=>o.cls=.ref C∧o.dict=some dx∧o.data=.plain
 | .cell v,o=>∃ u,o.data=.cell u∧v.ok u
 | .raw o',o=>o=o'
 | .rcd T vs,o=>o.cls=.type T∧o.data=.fields vs
 | .exc C d,o=>o.cls=.ref C∧o.dict=d∧∃ t,o.data=.fields #[.ref t,.none,.none,.none,.bool false,.none]
 | .dct P,o=>∃ es n,o={ cls:=.type "dict",data:=.dict es n }∧P es.toList
 | .pred P,o=>P o
noncomputable abbrev Led:=List (Addr×OS)
structure Bs where
 prog:Program
 w:World
 base:Heap
 gs:Array GenState
 os:OsState
 mg:Str→Option Value
 mb:Str→Option Value
 exC:Addr
 big:∃ a o,400≤a∧base.get? a=some o
structure St (B:Bs) (led:Led) (s:Shared):Prop where
 keep:B.base.StaysIn s.heap
 has:∀ p∈led,∃ o,s.heap.get? p.1=some o∧p.2.ok o
 fresh:∀ p∈led,B.base.get? p.1=none
 nodup:(led.map (·.1)).Nodup
 gens:s.gens=B.gs
 os:s.os=B.os
 high:∀ p∈led,400<p.1
section
variable {B:Bs} {led led':Led} {s:Shared}
theorem St.toks (H:St B led s) {t:Nat}:St B led { s with toks:=t }:=⟨H.keep,H.has,H.fresh,H.nodup,H.gens,H.os,H.high⟩
theorem St.get (H:St B led s) {a:Addr} {o:OS} (hm:(a,o)∈led):∃ ob,s.heap.get? a=some ob∧o.ok ob:=H.has _ hm
inductive Up (a:Addr) (o o':OS):Led→Led→Prop
 | head {r:Led}:Up a o o' ((a,o)::r) ((a,o')::r)
 | tail {p:Addr×OS} {r r':Led}:Up a o o' r r'→Up a o o' (p::r) (p::r')
theorem Up.mem {a:Addr} {o o':OS} {l l':Led} (u:Up a o o' l l'):(a,o)∈l:=by
 induction u with
 | head=>exact .head _
 | tail _ ih=>exact .tail _ ih
theorem Up.addr {a:Addr} {o o':OS} {l l':Led} (u:Up a o o' l l'):l'.map (·.1)=l.map (·.1):=by
 induction u with
 | head=>rfl
 | tail _ ih=>simp [ih]
theorem Up.back {a:Addr} {o o':OS} {l l':Led} (u:Up a o o' l l') (hn:(l.map (·.1)).Nodup):∀ p∈l',p=(a,o')∨(p∈l∧p.1≠a):=by
 induction u with
 | head=>
  intro p hp
  rcases List.mem_cons.mp hp with rfl | hp
  ·exact .inl rfl
  ·refine .inr ⟨.tail _ hp,fun e=>?_⟩
   simp only [List.map_cons,List.nodup_cons] at hn
   exact hn.1 (e ▸ List.mem_map_of_mem hp)
 | @tail q r r' u ih=>
  intro p hp
  simp only [List.map_cons,List.nodup_cons] at hn
  rcases List.mem_cons.mp hp with rfl | hp
  ·refine .inr ⟨.head _,fun e=>hn.1 ?_⟩
   rw [e]
   exact List.mem_map_of_mem (f:=(·.1)) u.mem
  ·rcases ih hn.2 p hp with e | ⟨h1,h2⟩
   ·exact .inl e
   ·exact .inr ⟨.tail _ h1,h2⟩
theorem St.notMods (H:St B led s) {a:Addr} {o:OS} (hm:(a,o)∈led):(a == sysModules)=false:=by
 have:=H.high _ hm
 show (a == 1)=false
 simp only [beq_eq_false_iff_ne]
 intro e
 subst e
 simp at this
theorem St.ne_base (H:St B led s) {a:Addr} {o:OS} (hm:(a,o)∈led) {b:Addr} {ob:Obj} (e:B.base.get? b=some ob):b≠a:=by
 rintro rfl
 rw [H.fresh _ hm] at e; cases e
theorem St.change (H:St B led s) {a:Addr} {o o':OS} (u:Up a o o' led led') {h':Heap} {t:Nat} (hs:Heap.ExtBut a s.heap h') {ob:Obj} (ho:h'.get? a=some ob) (hk:o'.ok ob):
  St B led' { s with heap:=h',toks:=t }:=by
 refine ⟨fun b x e=>hs b x (H.ne_base u.mem e) (H.keep b x e),fun p hp=>?_,fun p hp=>?_,?_,H.gens,H.os,fun p hp=>?_⟩
 ·rcases u.back H.nodup p hp with rfl | ⟨h1,h2⟩
  ·exact ⟨ob,ho,hk⟩
  ·obtain ⟨x,hx,hk⟩:=H.has p h1
   exact ⟨x,hs _ _ h2 hx,hk⟩
 ·rcases u.back H.nodup p hp with rfl | ⟨h1,_⟩
  ·exact H.fresh (a,o) u.mem
  ·exact H.fresh p h1
 ·rw [u.addr]; exact H.nodup
 ·rcases u.back H.nodup p hp with rfl | ⟨h1,_⟩
  ·exact H.high (a,o) u.mem
  ·exact H.high p h1
theorem St.size_big (H:St B led s):400<s.heap.objs.size:=by
 obtain ⟨a,o,h1,h2⟩:=B.big
 exact Nat.lt_of_le_of_lt h1 (Heap.lt_size (H.keep _ _ h2))
theorem St.grow (H:St B led s) {o:OS} {h':Heap} {t:Nat} (hk:∀ b x,s.heap.get? b=some x→h'.get? b=some x) {a:Addr} {ob:Obj} (hn':s.heap.get? s.heap.objs.size=none) (ha:a=s.heap.objs.size) (ho:h'.get? a=some ob) (ok:o.ok ob):
  St B ((a,o)::led) { s with heap:=h',toks:=t }:=by
 have hn:s.heap.get? a=none:=by rw [ha]; exact hn'
 refine ⟨fun b x e=>hk b x (H.keep b x e),fun p hp=>?_,fun p hp=>?_,?_,H.gens,H.os,fun p hp=>?_⟩
 ·rcases List.mem_cons.mp hp with rfl | hp
  ·exact ⟨ob,ho,ok⟩
  ·obtain ⟨x,hx,z⟩:=H.has p hp
   exact ⟨x,hk _ _ hx,z⟩
 ·rcases List.mem_cons.mp hp with rfl | hp
  ·show B.base.get? a=none
   cases q:B.base.get? a with
   | none=>rfl
   | some x=>have:=H.keep _ _ q; rw [hn] at this; cases this
  ·exact H.fresh p hp
 ·simp only [List.map_cons,List.nodup_cons]
  refine ⟨fun hm=>?_,H.nodup⟩
  obtain ⟨p,hp,e⟩:=List.mem_map.mp hm
  obtain ⟨x,hx,_⟩:=H.has p hp
  rw [e,hn] at hx; cases hx
 ·rcases List.mem_cons.mp hp with rfl | hp
  ·show 400<a
   rw [ha]; exact H.size_big
  ·exact H.high p hp
theorem St.grow0 (H:St B led s) {h':Heap} {t:Nat} (hk:∀ b x,s.heap.get? b=some x→h'.get? b=some x):
  St B led { s with heap:=h',toks:=t }:=by
 refine ⟨fun b x e=>hk b x (H.keep b x e),fun p hp=>?_,H.fresh,H.nodup,H.gens,H.os,H.high⟩
 obtain ⟨x,hx,z⟩:=H.has p hp
 exact ⟨x,hk _ _ hx,z⟩
theorem St.lose {a:Addr} {o:OS} (H:St B ((a,o)::led) s) {h':Heap} {t:Nat} (hs:Heap.ExtBut a s.heap h'):St B led { s with heap:=h',toks:=t }:=by
 have nd:=H.nodup
 simp only [List.map_cons,List.nodup_cons] at nd
 refine ⟨fun b x e=>hs b x (H.ne_base (.head _) e) (H.keep b x e),fun p hp=>?_,fun p hp=>H.fresh p (.tail _ hp),nd.2,H.gens,H.os,fun p hp=>H.high p (.tail _ hp)⟩
 obtain ⟨x,hx,z⟩:=H.has p (.tail _ hp)
 exact ⟨x,hs _ _ (fun e=>nd.1 (e ▸ List.mem_map_of_mem hp)) hx,z⟩
theorem size_none (h:Heap):h.get? h.objs.size=none:=by
 cases q:h.get? h.objs.size with
 | none=>rfl
 | some o=>exact absurd (Heap.lt_size q) (Nat.lt_irrefl _)
theorem St.push (H:St B led s) {o:OS} {t:Nat} (ob:Obj) (ok:o.ok ob) (hf:ob.isFreed=false:=by rfl):St B ((s.heap.objs.size,o)::led) { s with heap:=s.heap.push ob,toks:=t }:=
 H.grow (fun b x e=>Heap.get?_push_of_some _ e) (size_none _) rfl (Heap.get?_push_size _ hf) ok
inductive Pick (p:Addr×OS):Led→Led→Prop
 | head {r:Led}:Pick p (p::r) r
 | tail {q:Addr×OS} {l r:Led}:Pick p l r→Pick p (q::l) (q::r)
theorem Pick.perm {p:Addr×OS} {l r:Led} (k:Pick p l r):l.Perm (p::r):=by
 induction k with
 | head=>exact .refl _
 | tail _ ih=>exact (List.Perm.cons _ ih).trans (.swap ..)
noncomputable def Sub (l' l:Led):Prop:=∃ d,l.Perm (l'++d)
theorem Sub.refl (l:Led):Sub l l:=⟨[],by simp⟩
theorem Sub.nil (l:Led):Sub [] l:=⟨l,by simp⟩
theorem Sub.skip {p:Addr×OS} {l' l:Led} (h:Sub l' l):Sub l' (p::l):=let ⟨d,e⟩:=h; ⟨p::d,(List.Perm.cons p e).trans List.perm_middle.symm⟩
theorem Sub.pick {p:Addr×OS} {l l' r:Led} (k:Pick p l r) (h:Sub l' r):Sub (p::l') l:=let ⟨d,e⟩:=h; ⟨d,k.perm.trans (List.Perm.cons p e)⟩
theorem Sub.trans {a b c:Led} (h:Sub a b) (k:Sub b c):Sub a c:=
 let ⟨d,e⟩:=h; let ⟨f,g⟩:=k
 ⟨d++f,g.trans ((List.Perm.append_right f e).trans (by rw [List.append_assoc]))⟩
theorem Sub.mem {l' l:Led} (h:Sub l' l):∀ p∈l',p∈l:=fun p hp=>let ⟨_,e⟩:=h; e.symm.mem_iff.mp (List.mem_append_left _ hp)
theorem Sub.right (a b:Led):Sub b (a++b):=⟨a,List.perm_append_comm⟩
theorem Sub.left (a b:Led):Sub a (a++b):=⟨b,.refl _⟩
theorem Sub.of_perm {a b:Led} (h:b.Perm a):Sub a b:=⟨[],by simpa using h⟩
theorem St.sub (H:St B led s) (h:Sub led' led):St B led' s:=by
 obtain ⟨d,e⟩:=h
 refine ⟨H.keep,fun p hp=>H.has p (e.symm.mem_iff.mp (List.mem_append_left _ hp)),fun p hp=>H.fresh p (e.symm.mem_iff.mp (List.mem_append_left _ hp)),?_,H.gens,H.os,fun p hp=>H.high p (e.symm.mem_iff.mp (List.mem_append_left _ hp))⟩
 have:=(e.map (·.1)).nodup H.nodup
 rw [List.map_append] at this
 exact (List.nodup_append.mp this).1
theorem St.perm (H:St B led s) (h:led.Perm led'):St B led' s:=H.sub ⟨[],by simpa using h⟩
inductive Put (x:Str) (v:VS):List (Str×VS)→List (Str×VS)→Prop
 | hit {u:VS} {r:List (Str×VS)}:Put x v ((x,u)::r) ((x,v)::r)
 | miss {p:Str×VS} {r r':List (Str×VS)}:Put x v r r'→Put x v (p::r) (p::r')
theorem Put.addr {x:Str} {v:VS} {l l':List (Str×VS)} (u:Put x v l l'):l'.map (·.1)=l.map (·.1):=by
 induction u with
 | hit=>rfl
 | miss _ ih=>simp [ih]
theorem Put.mem {x:Str} {v:VS} {l l':List (Str×VS)} (u:Put x v l l'):x∈l.map (·.1):=by
 induction u with
 | hit=>simp
 | miss _ ih=>exact .tail _ ih
theorem Put.back {x:Str} {v:VS} {l l':List (Str×VS)} (u:Put x v l l') (hn:(l.map (·.1)).Nodup):∀ p∈l',p=(x,v)∨(p∈l∧p.1≠x):=by
 induction u with
 | hit=>
  intro p hp
  rcases List.mem_cons.mp hp with rfl | hp
  ·exact .inl rfl
  ·refine .inr ⟨.tail _ hp,fun e=>?_⟩
   simp only [List.map_cons,List.nodup_cons] at hn
   exact hn.1 (e ▸ List.mem_map_of_mem hp)
 | @miss q r r' u ih=>
  intro p hp
  simp only [List.map_cons,List.nodup_cons] at hn
  rcases List.mem_cons.mp hp with rfl | hp
  ·refine .inr ⟨.head _,fun e=>hn.1 ?_⟩
   rw [e]
   exact u.mem
  ·rcases ih hn.2 p hp with e | ⟨h1,h2⟩
   ·exact .inl e
   ·exact .inr ⟨.tail _ h1,h2⟩
theorem nsOk.put {l l':List (Str×VS)} {m m':Str→Option Value} {x:Str} {v:VS} {u:Value} (h:nsOk l m) (k:Put x v l l') (hu:v.ok (some u)) (hm:∀ y,m' y=if y=x then some u else m y):nsOk l' m':=by
 refine ⟨fun p hp=>?_,by rw [k.addr]; exact h.nodup,fun y hy=>?_⟩
 ·rcases k.back h.nodup p hp with rfl | ⟨h1,h2⟩
  ·rw [hm,if_pos rfl]; exact hu
  ·rw [hm,if_neg h2]; exact h.has p h1
 ·rw [k.addr] at hy
  have hne:y≠x:=fun e=>hy (by rw [e]; exact k.mem)
  rw [hm,if_neg hne]
  exact h.only y hy
theorem St.ns (H:St B led s) {L:Addr} {l:List (Str×VS)} (hm:(L,OS.ns l)∈led):∃ m,s.heap.Ns L m∧nsOk l m:=by
 obtain ⟨o,ho,es,n,hd,hk,hok⟩:=H.get hm
 exact ⟨_,⟨o,es,n,ho,hd,hk,fun _=>rfl⟩,hok⟩
theorem ns_ok {h:Heap} {L:Addr} {m:Str→Option Value} {l:List (Str×VS)} (hn:h.Ns L m) (hk:nsOk l m):∃ o,h.get? L=some o∧(OS.ns l).ok o:=by
 obtain ⟨o,es,n,ho,hd,hs,hf⟩:=hn
 refine ⟨o,ho,es,n,hd,hs,?_⟩
 have:nsFind es=m:=funext hf
 rw [this]; exact hk
end
noncomputable def FrOk (envs:List Env) (led:Led):Prop:=∀ env∈envs,env.frame=some env.locals∧env.scope.kind=.function∧∃ l,(env.locals,OS.ns l)∈led
theorem FrOk.nil (led:Led):FrOk [] led:=fun _ h=>nomatch h
theorem FrOk.cons {env:Env} {envs:List Env} {led:Led} {l:List (Str×VS)} (h1:env.frame=some env.locals) (h2:env.scope.kind=.function) (hm:(env.locals,OS.ns l)∈led) (h:FrOk envs led):FrOk (env::envs) led:=by
 intro e he
 rcases List.mem_cons.mp he with rfl | he
 ·exact ⟨h1,h2,l,hm⟩
 ·exact h e he
theorem FrOk.mono {envs:List Env} {led led':Led} (h:FrOk envs led) (k:∀ p∈led,p∈led'):FrOk envs led':=fun e he=>let ⟨a,b,l,c⟩:=h e he; ⟨a,b,l,k _ c⟩
theorem FrOk.tail {env:Env} {envs:List Env} {led:Led} (h:FrOk (env::envs) led):FrOk envs led:=fun e he=>h e (.tail _ he)
structure Rm (A:Around) (envs:List Env) (n:Nat):Prop where
 frames:A.frames=some envs
 handled:A.handled=none
 depth:A.depth+10*n+10<1000
 units:A.units+40*n+40<9900
theorem Rm.deeper {A:Around} {envs:List Env} {n:Nat} (h:Rm A envs (n+1)) (env:Env):Rm (A.deeper env) (env::envs) n:=by
 obtain ⟨a,b,c,d⟩:=h
 refine ⟨by show A.frames.map _=_; rw [a]; rfl,b,?_,?_⟩
 ·show A.depth+1+10*n+10<1000; lia
 ·show A.units+3+40*n+40<9900; lia
theorem Rm.le {A:Around} {envs:List Env} {n k:Nat} (h:Rm A envs n) (e:k≤n):Rm A envs k:=⟨h.frames,h.handled,by have:=h.depth; lia,by have:=h.units; lia⟩
theorem Rm.room {A:Around} {envs:List Env} {n:Nat} (h:Rm A envs n):A.depth<recursionLimit:=by have:=h.depth; show A.depth<1000; lia
section
variable {B:Bs} {A:Around} {led led':Led} {s:Shared} {env:Env} {E:Value→Shared→Prop} {K:Frag} {p:Program} {loose:List Str}
theorem ldN {x:Str} {v:VS} {L:Addr} {l:List (Str×VS)} {Q:Value→Shared→Prop} (H:St B led s) (hm:(L,OS.ns l)∈led) (hL:env.locals=L) (hx:(x,v)∈l) (h:v.all fun u=>Q u s)
  (hk:env.scope.kind=.function) (hl:env.kindOf x=some .local):wpAny (model B.prog B.w) A (loadName env x) Q E s:=by
 subst hL
 obtain ⟨m,hn,ok⟩:=H.ns hm
 obtain ⟨u,hu,hq⟩:=VS.all_of h (ok.has _ hx)
 exact wpAny_loadName_local hk hl hn hu hq
theorem ldL {x:Str} {pos:Pos} {v:VS} {L:Addr} {l:List (Str×VS)} {Q:Value→Shared→Prop} (H:St B led s) (hm:(L,OS.ns l)∈led) (hL:env.locals=L) (hx:(x,v)∈l) (h:v.all fun u=>Q u s)
  (hk:env.scope.kind=.function) (hl:env.kindOf x=some .local) (hd:(x == ("__debug__" : Str))=false):wpAny (model B.prog B.w) A (eval (.Name x pos) env) Q E s:=
 wpAny_Name (ldN H hm hL hx h hk hl) hd
theorem ldK {x:Str} {pos:Pos} {v:Value} {Q:Value→Shared→Prop} (H:St B led s) (X:K.In B.base) (T:TopRead p loose B.mg B.mb B.base) (e:nsIn K mainGlobals x=some (some v)) (h:Q v s)
  (hk:env.scope.kind=.function) (hx:env.kindOf x=some .globalImplicit) (hg:env.globals=mainGlobals) (hd:(x == ("__debug__" : Str))=false):
  wpAny (model B.prog B.w) A (eval (.Name x pos) env) Q E s:=Name_function_global hk hx (loadGlobal_global (env:=env) (hg ▸ T.g.keeps H.keep) (mg_of X T.g e) h) hd
theorem ldB {x:Str} {pos:Pos} {v:Value} {Q:Value→Shared→Prop} (H:St B led s) (X:K.In B.base) (T:TopRead p loose B.mg B.mb B.base) (e:nsIn K mainGlobals x=some none) (hv:bootBuiltins x=some v) (hn:x ≠ "__name__") (h:Q v s)
  (hk:env.scope.kind=.function) (hx:env.kindOf x=some .globalImplicit) (hg:env.globals=mainGlobals) (hb:env.builtins=builtinsNs) (hd:(x == ("__debug__" : Str))=false):
  wpAny (model B.prog B.w) A (eval (.Name x pos) env) Q E s:=
 Name_function_global hk hx (loadGlobal_builtin (env:=env) (hg ▸ T.g.keeps H.keep) (mg_none_of X T.g e) (hb ▸ T.b.keeps H.keep) ((T.builtins x hn).trans hv) h) hd
theorem stN {x:Str} {u:Value} {v:VS} {L:Addr} {l l':List (Str×VS)} {Q:Unit→Shared→Prop} (H:St B led s) (hu:Up L (.ns l) (.ns l') led led') (hL:env.locals=L) (hp:Put x v l l') (hv:v.ok (some u))
  (h:∀ s',St B led' s'→Q () s') (hk:env.scope.kind=.function) (hl:env.kindOf x=some .local):wpAny (model B.prog B.w) A (storeName env x u) Q E s:=by
 subst hL
 obtain ⟨m,hn,ok⟩:=H.ns hu.mem
 refine wpAny_storeName_local hl hn (fun h' hn' hs=>h _ ?_) (by rw [hk]; rfl)
 obtain ⟨o,ho,hok⟩:=ns_ok hn' (ok.put hp hv fun _=>rfl)
 exact H.change hu hs.extBut ho hok
end
end Mine
namespace Mine
open PySem PySem.W PyProof.Rows PySem.Spec PySem.Calls
structure Exc (B:Bs) (envs:List Env) (led:Led) (k:Bool) (e:Addr) (s:Shared):Prop where
 st:St B led s
 fr:FrOk envs led
 ex:∃ g:Heap,B.base.StaysIn g∧g.StaysIn s.heap∧g.get? e=none∧(∀ env∈envs,g.get? env.locals=none) ∧
  (∀ p∈led,(∀ env∈envs,p.1≠env.locals)→∃ o,g.get? p.1=some o) ∧
  ∃ oe vs a0,s.heap.get? e=some oe∧oe.cls=.ref B.exC∧oe.data=.fields vs∧vs[0]?=some a0 ∧
   ((k=false∧vs[1]?=some .none)∨∃ T oT ts fl,vs[1]?=some (.ref T)∧g.get? T=none∧T≠e∧s.heap.get? T=some oT∧oT.data=.fields ts∧ts[3]?=some fl ∧
    (fl=.none∨∃ env r,envs=env::r∧fl=rawInt env.locals))
noncomputable def ExIn (B:Bs) (envs:List Env) (led:Led) (v:Value) (s:Shared):Prop:=∃ e k,v=.ref e∧Exc B envs led k e s
section
variable {B:Bs} {envs:List Env} {led led':Led} {s:Shared} {e:Addr}
theorem Exc.sub {k:Bool} (x:Exc B envs led k e s) (h:Sub led' led) (hf:FrOk envs led'):Exc B envs led' k e s:=by
 obtain ⟨a,b,g,h1,h2,h3,h4,h5,r⟩:=x
 exact ⟨a.sub h,hf,g,h1,h2,h3,h4,fun p hp=>h5 p (h.mem p hp),r⟩
theorem ExIn.sub {v:Value} (x:ExIn B envs led v s) (h:Sub led' led) (hf:FrOk envs led'):ExIn B envs led' v s:=let ⟨e,k,a,b⟩:=x; ⟨e,k,a,b.sub h hf⟩
theorem St.one (H:St B led s) {a:Addr} {o o':OS} (h:(a,o)∈led) (h':(a,o')∈led):o=o':=by
 have nd:=H.nodup
 clear H
 induction led with
 | nil=>cases h
 | cons r rs ih=>
  simp only [List.map_cons,List.nodup_cons] at nd
  rcases List.mem_cons.mp h with z1 | g1
  ·rcases List.mem_cons.mp h' with z2 | g2
   ·exact (congrArg Prod.snd (z1.trans z2.symm))
   ·exact absurd (List.mem_map_of_mem (f:=(·.1)) g2) (by rw [← z1] at nd; exact nd.1)
  ·rcases List.mem_cons.mp h' with z2 | g2
   ·exact absurd (List.mem_map_of_mem (f:=(·.1)) g1) (by rw [← z2] at nd; exact nd.1)
   ·exact ih g1 g2 nd.2
theorem FrOk.fun_ (b:FrOk envs led) (a:St B led s) {g:Heap} (h4:∀ env∈envs,g.get? env.locals=none):s.heap.FunFrames g envs:=by
 induction envs with
 | nil=>trivial
 | cons env r ih=>
  obtain ⟨c1,c2,l,c3⟩:=b env (.head _)
  obtain ⟨o,ho,es,n,hd,_⟩:=a.get c3
  exact ⟨by rw [c2]; decide,⟨env.locals,o,c1,h4 env (.head _),ho,fun vs q=>by rw [hd] at q; cases q⟩,ih b.tail (fun e he=>h4 e (.tail _ he))⟩
theorem St.slots (a:St B led s) (b:FrOk envs led) {g:Heap} (h1:B.base.StaysIn g) (h2:g.StaysIn s.heap)
  (h5:∀ p∈led,(∀ env∈envs,p.1≠env.locals)→∃ o,g.get? p.1=some o) {h':Heap} {t:Nat} (hg:g.StaysIn h') (hsl:s.heap.UpToSlots h'):
  St B led { s with heap:=h',toks:=t }:=by
 refine ⟨fun b o q=>hg _ _ (h1 _ _ q),fun p hp=>?_,a.fresh,a.nodup,a.gens,a.os,a.high⟩
 obtain ⟨o,ho,hok⟩:=a.has p hp
 by_cases q:∀ env∈envs,p.1≠env.locals
 ·obtain ⟨o',ho'⟩:=h5 p hp q
  have:=h2 _ _ ho'
  rw [ho] at this
  cases this
  exact ⟨o,hg _ _ ho',hok⟩
 ·have ⟨env,he,hL⟩:∃ env∈envs,p.1=env.locals:=Classical.byContradiction fun z=>q fun env he hne=>z ⟨env,he,hne⟩
  obtain ⟨_,_,l,hm⟩:=b env he
  obtain ⟨p1,p2⟩:=p
  dsimp only at hL ho hok ⊢
  subst hL
  have hp2:=a.one hp hm
  subst hp2
  obtain ⟨es,n,hd,r⟩:=hok
  obtain ⟨sl,hs⟩:=hsl _ _ ho fun vs q=>by rw [hd] at q; cases q
  exact ⟨_,hs,es,n,hd,r⟩
section
variable {M:Model} {A:Around} {E:Value→Shared→Prop} {env:Env} {outer:List Env}
theorem exc_note {k:Bool} {Q:Unit→Shared→Prop} (x:Exc B (env::outer) led k e s) (hA:A.frames=some (env::outer)) (h:∀ s',Exc B (env::outer) led true e s'→Q () s'):
  wpAny M A (noteFrame (.ref e) env) Q E s:=by
 obtain ⟨a,b,g,h1,h2,h3,h4,h5,oe,vs,a0,k1,k2,k3,k4,k5⟩:=x
 have hff:=b.fun_ a h4
 have hfr:=(b env (.head _)).1
 have fin:∀ h',Heap.NotedW g (env::outer) e oe.cls a0 (rawInt env.locals) s.heap h'→Q () { s with heap:=h' }:=fun h' ⟨n1,n2,n3,n4⟩=>by
  refine h _ ⟨a.slots b h1 h2 h5 n1 n4,b,g,h1,n1,h3,h4,h5,?_⟩
  obtain ⟨oe',vs',T,oT,ts,m1,m2,m3,m4,m5,m6,m7,m8,m9⟩:=n3
  exact ⟨oe',vs',a0,m1,m2.1.trans k2,m3,m2.2,.inr ⟨T,oT,ts,_,m4,m5,m6,m7,m8,m9,.inr ⟨env,outer,rfl,rfl⟩⟩⟩
 rcases k5 with ⟨_,k5⟩ | ⟨T,oT,ts,fl,m1,m2,m3,m4,m5,m6,m7⟩
 ·unfold noteFrame
  simp only [hfr]
  refine wpAny_bind (wpAny_field k1 k3 k5 ?_)
  rw [if_neg (by decide)]
  exact wpAny_entryW hA hff hfr k1 h2 h3 k3 (Array.getElem?_eq_some_iff.mp k5).1 k4 fin
 ·rcases m7 with rfl | ⟨env',r,q,rfl⟩
  ·exact wpAny_noteFrame_onW hA hff hfr ⟨oe,vs,T,oT,ts,k1,⟨rfl,k4⟩,k3,m1,m2,m3,m4,m5,m6⟩ h2 h3 fin
  ·cases q
   refine wpAny_noteFrame_againW (base:=g) hfr ⟨oe,vs,T,oT,ts,k1,⟨rfl,k4⟩,k3,m1,m2,m3,m4,m5,m6⟩ (h s ?_)
   exact ⟨a,b,g,h1,h2,h3,h4,h5,oe,vs,a0,k1,k2,k3,k4,.inr ⟨T,oT,ts,_,m1,m2,m3,m4,m5,m6,.inr ⟨env,outer,rfl,rfl⟩⟩⟩
theorem exc_flight {Q:Unit→Shared→Prop} {f:Option Addr} (x:Exc B (env::outer) led true e s) (hf:f=none∨f=some env.locals)
  (h:∀ s',Exc B (env::outer) led true e s'→Q () s'):wpAny M A (setFlight (.ref e) f) Q E s:=by
 obtain ⟨a,b,g,h1,h2,h3,h4,h5,oe,vs,a0,k1,k2,k3,k4,k5⟩:=x
 rcases k5 with ⟨q,_⟩ | ⟨T,oT,ts,fl,m1,m2,m3,m4,m5,m6,m7⟩
 ·cases q
 have hsz3:3<ts.size:=(Array.getElem?_eq_some_iff.mp m6).1
 unfold setFlight
 refine wpAny_bind (wpAny_field k1 k3 m1 ?_)
 rw [if_pos (show (Value.ref T != Value.none)=true from by simp)]
 have other:∀ b,b≠T→(s.heap.update T (Obj.mapFields (·.setIfInBounds 3 (f.elim Value.none fun f=>rawInt f)))).get? b=s.heap.get? b:=
  fun b hb=>Heap.get?_update_other _ _ (Ne.symm hb)
 have noRecord:∀ b o,s.heap.get? b=some o→(∀ vs,o.data≠.fields vs)→b≠T:=fun b o hb hnf q=>by
  rw [q,m4] at hb; injection hb with hb; subst hb; exact hnf ts m5
 refine wpAny_setField m4 m5 hsz3 (h _ ?_)
 have hsl:s.heap.UpToSlots (s.heap.update T (Obj.mapFields (·.setIfInBounds 3 (f.elim Value.none fun f=>rawInt f)))):=fun b o hb hn=>⟨o.slots,(other b (noRecord b o hb hn)).trans hb⟩
 have hg:g.StaysIn (s.heap.update T (Obj.mapFields (·.setIfInBounds 3 (f.elim Value.none fun f=>rawInt f)))):=fun b o q=>(other b fun z=>by rw [z,m2] at q; cases q).trans (h2 b o q)
 refine ⟨a.slots b h1 h2 h5 hg hsl,b,g,h1,hg,h3,h4,h5,oe,vs,a0,(other e (Ne.symm m3)).trans k1,k2,k3,k4,.inr ⟨T,_,_,f.elim Value.none fun f=>rawInt f,m1,m2,m3,Heap.get?_update_self _ m4 (Obj.isFreed_of_fields (Obj.data_mapFields m5 _)),Obj.data_mapFields m5 _,by simp [hsz3],?_⟩⟩
 rcases hf with rfl | rfl
 ·exact .inl rfl
 ·exact .inr ⟨env,outer,rfl,rfl⟩
theorem exc_back {Q:Value→Shared→Prop} (x:Exc B (env::outer) led true e s) (h:∀ v s',ExIn B (env::outer) led v s'→E v s'):cameBackBy M A env E (.ref e) s:=by
 have hfr:=(x.fr env (.head _)).1
 obtain ⟨a,b,g,h1,h2,h3,h4,h5,oe,vs,a0,k1,k2,k3,k4,k5⟩:=id x
 rcases k5 with ⟨q,_⟩ | ⟨T,oT,ts,fl,m1,m2,m3,m4,m5,m6,m7⟩
 ·cases q
 unfold cameBackBy
 refine wpAny_bind (wpAny_field k1 k3 m1 ?_)
 rw [if_neg (show ¬ (Value.ref T == Value.none)=true from by simp)]
 exact exc_flight x (.inr hfr) fun s' x'=>h _ _ ⟨e,true,rfl,x'⟩
theorem exc_noted {v:Value} (x:ExIn B (env::outer) led v s) (hA:A.frames=some (env::outer)) (h:∀ v s',ExIn B (env::outer) led v s'→E v s'):notedBy M A env (cameBackBy M A env E) v s:=by
 obtain ⟨e,k,rfl,x⟩:=x
 exact exc_note x hA fun s' x'=>exc_back (Q:=fun _ _=>True) x' h
theorem exc_leave {k:Bool} {Q:Unit→Shared→Prop} {led':Led} (x:Exc B (env::outer) led k e s) (hA:A.frames=some (env::outer)) (hs:Sub led' led) (hF:FrOk outer led') (hne:∀ p∈led',p.1≠env.locals)
  (h:∀ s',Exc B outer led' true e s'→Q () s'):wpAny M A (leaving env (.ref e)) Q E s:=by
 obtain ⟨a,b,g,h1,h2,h3,h4,h5,oe,vs,a0,k1,k2,k3,k4,k5⟩:=x
 have hff:=b.fun_ a h4
 have hfr:=(b env (.head _)).1
 have h5':∀ p∈led',(∀ env∈outer,p.1≠env.locals)→∃ o,g.get? p.1=some o:=fun p hp q=>h5 p (hs.mem p hp) fun env' he=>by
  rcases List.mem_cons.mp he with rfl | he
  ·exact hne p hp
  ·exact q env' he
 have fin:∀ h',Heap.LeftW g (env::outer) e oe.cls a0 s.heap h'→Q () { s with heap:=h' }:=fun h' ⟨n1,n2,n3,n4⟩=>by
  refine h _ ⟨(a.slots b h1 h2 h5 n1 n4).sub hs,hF,g,h1,n1,h3,fun e he=>h4 e (.tail _ he),h5',?_⟩
  obtain ⟨oe',vs',T,oT,ts,m1,m2,m3,m4,m5,m6,m7,m8,m9⟩:=n3
  exact ⟨oe',vs',a0,m1,m2.1.trans k2,m3,m2.2,.inr ⟨T,oT,ts,_,m4,m5,m6,m7,m8,m9,.inl rfl⟩⟩
 rcases k5 with ⟨_,k5⟩ | ⟨T,oT,ts,fl,m1,m2,m3,m4,m5,m6,m7⟩
 ·exact wpAny_leaving_firstW hA hff hfr k1 h2 h3 k3 k5 k4 fin
 ·rcases m7 with rfl | ⟨env',r,q,rfl⟩
  ·exact wpAny_leaving_nextW hA hff hfr ⟨oe,vs,T,oT,ts,k1,⟨rfl,k4⟩,k3,m1,m2,m3,m4,m5,m6⟩ h2 h3 fin
  ·cases q
   unfold leaving
   refine wpAny_bind (wpAny_noteFrame_againW (base:=g) hfr ⟨oe,vs,T,oT,ts,k1,⟨rfl,k4⟩,k3,m1,m2,m3,m4,m5,m6⟩ ?_)
   refine wpAny_setFlight_noneW h2 hff ⟨oe,vs,T,oT,ts,k1,⟨rfl,k4⟩,k3,m1,m2,m3,m4,m5,m6⟩ fun h' y1 y2 y3 y4=>?_
   exact fin h' ⟨y1,y2,y3,fun b o hb hn=>⟨o.slots,y4 b o hb hn⟩⟩
end
end
end Mine
namespace Mine
open PySem PySem.W PyProof.Rows PySem.Spec PySem.Calls
noncomputable def fret:Flow→Value | .ret v=>v | _=>.none
noncomputable def RQ (Q E:Value→Shared→Prop) (r:Result) (s:Shared):Prop:=match r with | .ok (.ret v)=>Q v s | .ok _=>False | .error e=>E e s
noncomputable def EGood (B:Bs) (A:Around) (env:Env) (E:Value→Shared→Prop):Prop:=∀ v s,E v s→notedBy (model B.prog B.w) A env (cameBackBy (model B.prog B.w) A env E) v s
theorem eGood_false (B:Bs) (A:Around) (env:Env):EGood B A env fun _ _=>False:=fun _ _ h=>h.elim
noncomputable def ExF (B:Bs) (env:Env) (envs:List Env) (led:Led) (v:Value) (s:Shared):Prop:=∃ l,ExIn B (env::envs) ((env.locals,.ns l)::led) v s
theorem eGood_exF {B:Bs} {A:Around} {env:Env} {envs:List Env} {led:Led} (hA:A.frames=some (env::envs)):EGood B A env (ExF B env envs led):=
 fun v s ⟨l,x⟩=>exc_noted x hA fun v s' x'=>⟨l,x'⟩
section
variable {B:Bs} {A:Around} {led led':Led} {s:Shared} {E:Value→Shared→Prop} {K:Frag} {p:Program} {loose:List Str} {envs:List Env} {n:Nat}
noncomputable abbrev env0 (qual:Str) (scope:Scope) (L f:Addr) (cd:Value):Env:=envX qual scope L f cd []
theorem call_any (EB:Env→Value→Shared→Prop) {f:Addr} {args:List Value} {binds:List (Str×Value)} {l:List (Str×VS)} {name qual:Str} {params:Arguments} {body:List Stmt} {scope:Scope} {dV kV doc pm cdv ct oc:Value} {an od:Option Addr} {osl:Array (Option Value)}
  {Q:Value→Shared→Prop} (H:St B led s) (R:Rm A envs (n+1)) (X:K.In B.base) (T:TopRead p loose B.mg B.mb B.base)
  (ho:K.lookup f=some ⟨oc,od,.func (fnOf name qual params body scope dV kV doc pm an cdv ct),osl⟩) (hcd:codeIn K cdv qual=true)
  (hbind:BindsTo s (fnOf name qual params body scope dV kV doc pm an cdv ct) ⟨args,[]⟩ binds)
  (hcell:∀ x∈scope.names,x.2≠.cell) (hloc:∀ y∈binds,scope.names.lookup y.1=some .local) (hl:nsOk l fun x=>binds.reverse.lookup x)
  (hco:scope.isCoroutine=false) (hgen:scope.isGenerator=false) (hk:scope.kind=.function)
  (h:∀ L s',St B ((L,.ns l)::led) s'→Rm (A.deeper (env0 qual scope L f cdv)) (env0 qual scope L f cdv::envs) n→
   wpAny (model B.prog B.w) (A.deeper (env0 qual scope L f cdv)) (execs body (env0 qual scope L f cdv)) (fun fl s'=>Q (fret fl) s') (EB (env0 qual scope L f cdv)) s')
  (hE:∀ L v s',Rm (A.deeper (env0 qual scope L f cdv)) (env0 qual scope L f cdv::envs) n→EB (env0 qual scope L f cdv) v s'→
   wpAny (model B.prog B.w) (A.deeper (env0 qual scope L f cdv)) (leaving (env0 qual scope L f cdv) v) (fun _ s''=>E v s'') (fun e' s''=>E e' s'') s'):
  codeAny (model B.prog B.w) A (.call (.ref f) ⟨args,[]⟩) (RQ Q E) s:=by
 refine codeAny_call_def (fd:=fnOf name qual params body scope dV kV doc pm an cdv ct) (body:=body) (binds:=binds) R.room (H.keep _ _ (X _ _ ho)) rfl (T.nolimit.keeps H.keep)
  (codeRec_of (fun a o e=>H.keep _ _ (X a o e)) hcd) rfl hbind hcell hloc (fun h₁ hns hk₁=>?_) hco hgen hk
 obtain ⟨o,ho',hok⟩:=ns_ok hns hl
 have H':St B ((s.heap.objs.size,.ns l)::led) { s with heap:=h₁,toks:=s.toks+binds.length }:=H.grow hk₁ (size_none _) rfl ho' hok
 have R':=R.deeper (env0 qual scope s.heap.objs.size f cdv)
 exact wpAny_mono (h _ _ H' R') (fun fl s' q=>q) fun v s' q=>hE _ v s' R' q
theorem call0 {f:Addr} {args:List Value} {binds:List (Str×Value)} {l:List (Str×VS)} {name qual:Str} {params:Arguments} {body:List Stmt} {scope:Scope} {dV kV doc pm cdv ct oc:Value} {an od:Option Addr} {osl:Array (Option Value)}
  {Q:Value→Shared→Prop} (H:St B led s) (R:Rm A envs (n+1)) (X:K.In B.base) (T:TopRead p loose B.mg B.mb B.base)
  (ho:K.lookup f=some ⟨oc,od,.func (fnOf name qual params body scope dV kV doc pm an cdv ct),osl⟩) (hcd:codeIn K cdv qual=true)
  (hbind:BindsTo s (fnOf name qual params body scope dV kV doc pm an cdv ct) ⟨args,[]⟩ binds)
  (hcell:∀ x∈scope.names,x.2≠.cell) (hloc:∀ y∈binds,scope.names.lookup y.1=some .local) (hl:nsOk l fun x=>binds.reverse.lookup x)
  (hco:scope.isCoroutine=false) (hgen:scope.isGenerator=false) (hk:scope.kind=.function)
  (h:∀ L s' A' E',St B ((L,.ns l)::led) s'→Rm A' (env0 qual scope L f cdv::envs) n→EGood B A' (env0 qual scope L f cdv) E'→
   wpAny (model B.prog B.w) A' (execs body (env0 qual scope L f cdv)) (fun fl s'=>Q (fret fl) s') E' s'):
  codeAny (model B.prog B.w) A (.call (.ref f) ⟨args,[]⟩) (RQ Q E) s:=
 call_any (fun _ _ _=>False) H R X T ho hcd hbind hcell hloc hl hco hgen hk (fun L s' H' R'=>h L s' _ _ H' R' (eGood_false _ _ _)) fun _ _ _ _ q=>q.elim
theorem callx {f:Addr} {args:List Value} {binds:List (Str×Value)} {l:List (Str×VS)} {name qual:Str} {params:Arguments} {body:List Stmt} {scope:Scope} {dV kV doc pm cdv ct oc:Value} {an od:Option Addr} {osl:Array (Option Value)}
  {Q:Value→Shared→Prop} (H:St B led s) (R:Rm A envs (n+1)) (X:K.In B.base) (T:TopRead p loose B.mg B.mb B.base)
  (ho:K.lookup f=some ⟨oc,od,.func (fnOf name qual params body scope dV kV doc pm an cdv ct),osl⟩) (hcd:codeIn K cdv qual=true)
  (hbind:BindsTo s (fnOf name qual params body scope dV kV doc pm an cdv ct) ⟨args,[]⟩ binds)
  (hcell:∀ x∈scope.names,x.2≠.cell) (hloc:∀ y∈binds,scope.names.lookup y.1=some .local) (hl:nsOk l fun x=>binds.reverse.lookup x)
  (hco:scope.isCoroutine=false) (hgen:scope.isGenerator=false) (hk:scope.kind=.function) (hF:FrOk envs led') (hE:∀ v s',ExIn B envs led' v s'→E v s')
  (h:∀ L s' A' E',St B ((L,.ns l)::led) s'→Rm A' (env0 qual scope L f cdv::envs) n→EGood B A' (env0 qual scope L f cdv) E'→
   (∀ l v s',ExIn B (env0 qual scope L f cdv::envs) ((L,.ns l)::led') v s'→E' v s')→
   wpAny (model B.prog B.w) A' (execs body (env0 qual scope L f cdv)) (fun fl s'=>Q (fret fl) s') E' s'):
  codeAny (model B.prog B.w) A (.call (.ref f) ⟨args,[]⟩) (RQ Q E) s:=by
 refine call_any (fun env v s=>ExF B env envs led' v s) H R X T ho hcd hbind hcell hloc hl hco hgen hk (fun L s' H' R'=>h L s' _ _ H' R' (eGood_exF R'.frames) fun l v s' x=>⟨l,x⟩) fun L v s' R' q=>?_
 obtain ⟨l,e,k,rfl,x⟩:=q
 refine exc_leave x R'.frames (Sub.skip (Sub.refl _)) hF (fun p hp e=>?_) fun s'' x'=>hE _ _ ⟨e,true,rfl,x'⟩
 have nd:=x.st.nodup
 simp only [List.map_cons,List.nodup_cons] at nd
 exact nd.1 ((show p.1=L from e) ▸ List.mem_map_of_mem (f:=(·.1)) hp)
theorem nsOk_binds {l:List (Str×VS)} {binds:List (Str×Value)} (h1:∀ p∈l,p.2.ok (binds.reverse.lookup p.1)) (h2:(l.map (·.1)).Nodup) (h3:∀ x∈binds.map (·.1),x∈l.map (·.1)):nsOk l fun x=>binds.reverse.lookup x:=by
 refine ⟨h1,h2,fun x hx=>?_⟩
 have:∀ bs:List (Str×Value),(∀ b∈bs,b.1≠x)→bs.lookup x=none:=by
  intro bs
  induction bs with
  | nil=>intro _; rfl
  | cons b r ih=>
   intro h
   rw [List.lookup_cons,ih fun c hc=>h c (.tail _ hc)]
   have:(x == b.1)=false:=by
    rw [beq_eq_false_iff_ne]; exact fun e=>h b (.head _) e.symm
   rw [this]
 exact this _ fun b hb e=>hx (e ▸ h3 _ (List.mem_map_of_mem (List.mem_reverse.mp hb)))
theorem wp_call {f:Value} {vs:List Value} {Q:Value→Shared→Prop} (h:codeAny (model B.prog B.w) A (.call f ⟨vs,[]⟩) (RQ Q E) s):wpAny (model B.prog B.w) A (call f vs) Q E s:=wpAny_call h
theorem Rm.under {C:Addr} {vs:List Value} (h:Rm A envs (n+1)):Rm (A.under (.builtin "type.__call__" ⟨.ref C::vs,[]⟩)) envs n:=by
 obtain ⟨a,b,c,d⟩:=h
 refine ⟨a,b,?_,?_⟩
 ·rw [depth_under_make]; exact far [_,_] [] (.b (.p (.p (.p Z0 (.n 1)) (.m 10 Z1)) (.n 10)) (.n 1000)) [.b (.p (.p Z0 (.m 10 (.p Z1 (.n 1)))) (.n 10)) (.n 1000)] [1,1] (fm c fz) rfl
 ·rw [units_under_make]; exact far [_,_] [] (.b (.p (.p (.p Z0 (.n 1)) (.m 40 Z1)) (.n 40)) (.n 9900)) [.b (.p (.p Z0 (.m 40 (.p Z1 (.n 1)))) (.n 40)) (.n 9900)] [1,1] (fm d fz) rfl
end
section
variable {B:Bs} {A:Around} {led led':Led} {s:Shared} {E:Value→Shared→Prop} {env:Env}
theorem while_ {test:Expr} {body:List Stmt} {pos:Pos} {Q:Flow→Shared→Prop} (hE:EGood B A env E) (I:Nat→Shared→Prop) (k:Nat) (h0:I k s)
  (turn:∀ k s,I k s→wpAny (model B.prog B.w) A (isTrue test env (eval test env)) (fun b s₂=>
   if b=true then wpAny (model B.prog B.w) A (execs body env) (fun f s₃=>match f with
    | .next=>∃ m,m<k∧I m s₃
    | .cont=>∃ m,m<k∧I m s₃
    | .brk=>Q .next s₃
    | .ret v=>Q (.ret v) s₃) E s₂
   else Q .next s₂) E s):wpAny (model B.prog B.w) A (exec (.While test body [] pos) env) Q E s:=by
 refine wpAny_While (codeAny_whileLoop I (fun k s hI=>?_) k h0)
 refine wpAny_mono (turn k s hI) (fun b s₂ q=>?_) fun v s' q=>hE v s' q
 cases b with
 | true=>exact wpAny_mono q (fun f s₃ z=>by cases f <;> exact z) fun v s' q=>hE v s' q
 | false=>exact wpAny_execs_nil q
structure Itr (B:Bs) where
 n:Nat
 at_:Nat→OS
 item:Nat→VS
 serves:Led→Prop
 next:∀ (A:Around) (ia:Addr) (i:Nat) (led:Led) (s:Shared) (Q:Option Value→Shared→Prop) (E:Value→Shared→Prop),A.handled=none→St B ((ia,at_ i)::led) s→serves led→i<n→
  (∀ s',St B ((ia,at_ (i+1))::led) s'→(item i).all fun v=>Q (some v) s')→wpAny (model B.prog B.w) A (pyNext (.ref ia)) Q E s
 stop:∀ (A:Around) (ia:Addr) (i:Nat) (led:Led) (s:Shared) (Q:Option Value→Shared→Prop) (E:Value→Shared→Prop),A.handled=none→St B ((ia,at_ i)::led) s→serves led→i=n→
  (∀ s',St B led s'→Q none s')→wpAny (model B.prog B.w) A (pyNext (.ref ia)) Q E s
theorem for_ (I:Itr B) {target:Expr} {body:List Stmt} {Q:Flow→Shared→Prop} (hE:EGood B A env E) (hh:A.handled=none) {ia:Addr} {led₀:Led}
  (H:St B ((ia,I.at_ 0)::led₀) s) (J:Nat→Led→Prop) (h0:J 0 led₀) (hs:∀ i led,J i led→I.serves led) (ht:∀ i led s v (Q:Unit→Shared→Prop) E,(I.item i).ok (some v)→St B ((ia,I.at_ (i+1))::led) s→Q () s→wpAny (model B.prog B.w) A (letOwnedTupleGo target (.ref ia) v) Q E s)
  (turn:∀ i led s,i<I.n→J i led→St B ((ia,I.at_ (i+1))::led) s→(I.item i).all fun v=>wpAny (model B.prog B.w) A (assign target env v) (fun _ s₂=>
   wpAny (model B.prog B.w) A (execs body env) (fun f s₃=>match f with
    | .next=>∃ led',J (i+1) led'∧St B ((ia,I.at_ (i+1))::led') s₃
    | .cont=>∃ led',J (i+1) led'∧St B ((ia,I.at_ (i+1))::led') s₃
    | .brk=>Q .next s₃
    | .ret v=>Q (.ret v) s₃) E s₂) E s)
  (done:∀ led s,J I.n led→St B led s→Q .next s):
  codeAny (model B.prog B.w) A (.forLoop target (.ref ia) body [] env) (fun r s'=>match r with | .ok f=>Q f s' | .error e=>cameBackBy (model B.prog B.w) A env E e s') s:=by
 refine codeAny_forLoop_any (fun k s=>∃ i led,i≤I.n∧k=I.n-i∧J i led∧St B ((ia,I.at_ i)::led) s) ?_ (I.n-0) ⟨0,led₀,Nat.zero_le _,rfl,h0,H⟩
 rintro k s ⟨i,led,hi,rfl,hJ,H⟩
 rcases Nat.lt_or_ge i I.n with hlt | hge
 ·refine I.next A ia i led s _ _ hh H (hs i led hJ) hlt fun s' H'=>?_
  refine VS.all_mono2 (turn i led s' hlt hJ H') fun v hv q=>?_
  show wpAny _ _ (letOwnedTupleGo target (.ref ia) v) _ _ s'
  refine ht i led s' v _ _ hv H' (wpAny_mono q (fun _ s₂ q₂=>wpAny_mono q₂ (fun f s₃ z=>?_) fun v s' q=>hE v s' q) fun v s' q=>hE v s' q)
  have fin:(∃ led',J (i+1) led'∧St B ((ia,I.at_ (i+1))::led') s₃)→∃ m,m<I.n-i∧∃ i led,i≤I.n∧m=I.n-i∧J i led∧St B ((ia,I.at_ i)::led) s₃:=
   fun ⟨led',a,b⟩=>⟨I.n-(i+1),by omega,i+1,led',hlt,rfl,a,b⟩
  cases f with
  | next=>exact fin z
  | cont=>exact fin z
  | brk=>exact z
  | ret v=>exact z
 ·obtain rfl:i=I.n:=Nat.le_antisymm hi hge
  exact I.stop A ia _ led s _ _ hh H (hs _ led hJ) rfl fun s' H'=>wpAny_execs_nil (done led s' hJ H')
theorem For_ {target iter:Expr} {body:List Stmt} {pos:Pos} {Q:Flow→Shared→Prop}
  (h:wpAny (model B.prog B.w) A (eval iter env) (fun x s₁=>wpAny (model B.prog B.w) A (pyIter x) (fun it s₂=>
   codeAny (model B.prog B.w) A (.forLoop target it body [] env) (fun r s'=>match r with | .ok f=>Q f s' | .error e=>cameBackBy (model B.prog B.w) A env E e s') s₂) E s₁) E s)
  (hf:∀ x,foldedSetIterable iter env x=pure x):wpAny (model B.prog B.w) A (exec (.For target iter body [] pos) env) Q E s:=wpAny_For h hf
end
end Mine
namespace Mine
open PySem PySem.W PyProof.Rows PySem.Spec PySem.Calls
theorem oks_length:∀ {vs:List VS} {xs:List Value},oks vs xs→xs.length=vs.length
 | [],[],_=>rfl
 | _::_,_::_,h=>congrArg (·+1) (oks_length h.2)
 | [],_::_,h=>h.elim
 | _::_,[],h=>h.elim
theorem oks_get:∀ {vs:List VS} {xs:List Value} (i:Nat) {v:VS},oks vs xs→vs[i]?=some v→∃ x,xs[i]?=some x∧v.ok (some x)
 | _::_,x::_,0,v,h,e=>by cases e; exact ⟨x,rfl,h.1⟩
 | _::vs,_::xs,i+1,v,h,e=>by
  obtain ⟨x,a,b⟩:=oks_get (vs:=vs) (xs:=xs) i h.2 (by simpa using e)
  exact ⟨x,by simpa using a,b⟩
 | [],[],_,_,_,e=>by cases e
 | [],_::_,_,_,h,_=>h.elim
 | _::_,[],_,_,h,_=>h.elim
theorem oks_append:∀ {vs ws:List VS} {xs ys:List Value},oks vs xs→oks ws ys→oks (vs++ws) (xs++ys)
 | [],_,[],_,_,k=>k
 | _::_,_,_::_,_,h,k=>⟨h.1,oks_append h.2 k⟩
 | [],_,_::_,_,h,_=>h.elim
 | _::_,_,[],_,h,_=>h.elim
theorem oks_set:∀ {vs:List VS} {xs:List Value} (i:Nat) {v:VS} {x:Value},oks vs xs→v.ok (some x)→oks (vs.set i v) (xs.set i x)
 | [],[],_,_,_,_,_=>trivial
 | _::_,_::_,0,_,_,h,k=>⟨k,h.2⟩
 | _::_,_::_,i+1,_,_,h,k=>⟨h.1,oks_set i h.2 k⟩
 | [],_::_,_,_,_,h,_=>h.elim
 | _::_,[],_,_,_,h,_=>h.elim
theorem oks_erase:∀ {vs:List VS} {xs:List Value} (i:Nat),oks vs xs→oks (vs.eraseIdx i) (xs.eraseIdx i)
 | [],[],_,_=>trivial
 | _::_,_::_,0,h=>h.2
 | _::_,_::_,i+1,h=>⟨h.1,oks_erase i h.2⟩
 | [],_::_,_,h=>h.elim
 | _::_,[],_,h=>h.elim
theorem oks_take:∀ {vs:List VS} {xs:List Value} (i:Nat),oks vs xs→oks (vs.take i) (xs.take i)
 | [],[],i,_=>by simp [oks]
 | _::_,_::_,0,h=>trivial
 | _::_,_::_,i+1,h=>⟨h.1,oks_take i h.2⟩
 | [],_::_,_,h=>h.elim
 | _::_,[],_,h=>h.elim
theorem oks_ints:∀ {ns:List Int} {xs:List Value},oks (ns.map .int) xs→IntsAre xs ns
 | [],[],_=>.nil
 | n::ns,x::xs,⟨⟨t,e⟩,h⟩=>by cases e; exact .cons _ _ (oks_ints h)
 | [],_::_,h=>h.elim
 | _::_,[],h=>h.elim
noncomputable def ilst (ns:List Int):OS:=.lst (ns.map .int)
section
variable {B:Bs} {A:Around} {led led':Led} {s:Shared} {E:Value→Shared→Prop} {env:Env}
section
variable {a b:Int} {t u:Tok} {Q:Value→Shared→Prop}
theorem c_int {i:Int} {k:Nat} {pos:Pos} (H:St B led s) (h:∀ t s',St B led s'→Q (.int i t) s'):wpAny (model B.prog B.w) A (eval (.Constant (.int i) k pos) env) Q E s:=wpAny_Constant_int (h _ _ H.toks)
theorem c_str {i:Str} {k:Nat} {pos:Pos} (H:St B led s) (h:∀ t s',St B led s'→Q (.str i t) s'):wpAny (model B.prog B.w) A (eval (.Constant (.str i) k pos) env) Q E s:=Constant_str (h _ _ H.toks)
theorem i_add (H:St B led s) (h:∀ t s',St B led s'→Q (.int (a+b) t) s'):wpAny (model B.prog B.w) A (binaryOp .Add (.int a t) (.int b u)) Q E s:=add_int (h _ _ H.toks)
theorem i_iadd (H:St B led s) (h:∀ t s',St B led s'→Q (.int (a+b) t) s'):wpAny (model B.prog B.w) A (inplaceOp .Add (.int a t) (.int b u)) Q E s:=iadd_int (h _ _ H.toks)
theorem i_sub (H:St B led s) (h:∀ t s',St B led s'→Q (.int (a-b) t) s'):wpAny (model B.prog B.w) A (binaryOp .Sub (.int a t) (.int b u)) Q E s:=sub_int (h _ _ H.toks)
theorem i_mul (H:St B led s) (hm:IntMulOk a b) (h:∀ t s',St B led s'→Q (.int (a*b) t) s'):wpAny (model B.prog B.w) A (binaryOp .Mult (.int a t) (.int b u)) Q E s:=mul_int (h _ _ H.toks) hm
theorem i_mod (H:St B led s) (h0:0<b) (h:∀ t s',St B led s'→Q (.int (a % b) t) s'):wpAny (model B.prog B.w) A (binaryOp .Mod (.int a t) (.int b u)) Q E s:=
 mod_int' (Int.ne_of_gt h0) (by rw [Int.fmod_eq_emod_of_nonneg a (Int.le_of_lt h0)]; exact h _ _ H.toks)
theorem i_div (H:St B led s) (h0:0<b) (hp:Builtin.divisionGoesByPylong a b=false∨PylongRoom (model B.prog B.w) A s) (h:∀ t s',St B led s'→Q (.int (a / b) t) s'):wpAny (model B.prog B.w) A (binaryOp .FloorDiv (.int a t) (.int b u)) Q E s:=
 floordiv_int (Int.ne_of_gt h0) (by rw [Int.fdiv_eq_ediv_of_nonneg a (Int.le_of_lt h0)]; exact h _ _ H.toks) hp
theorem i_shl (H:St B led s) (h0:0≤b) (h1:b≤1000000) (h2:a.natAbs<2 ^ 64) (h:∀ t s',St B led s'→Q (.int (a*2 ^ b.toNat) t) s'):wpAny (model B.prog B.w) A (binaryOp .LShift (.int a t) (.int b u)) Q E s:=lshift_int_small h0 h1 h2 (h _ _ H.toks)
theorem i_shr (H:St B led s) (h0:0≤b) (h:∀ t s',St B led s'→Q (.int (a / 2 ^ b.toNat) t) s'):wpAny (model B.prog B.w) A (binaryOp .RShift (.int a t) (.int b u)) Q E s:=
 rshift_int h0 (by rw [Int.fdiv_eq_ediv_of_nonneg a (Int.le_of_lt (Int.pow_pos (by decide)))]; exact h _ _ H.toks)
theorem i_neg (H:St B led s) (h:∀ t s',St B led s'→Q (.int (-a) t) s'):wpAny (model B.prog B.w) A (unaryOp .USub (.int a t)) Q E s:=neg_int (h _ _ H.toks)
theorem i_max (H:St B led s) (hh:A.handled=none) (h:∀ t s',St B led s'→Q (.int (max a b) t) s'):wpAny (model B.prog B.w) A (call (.builtin "max") [.int a t,.int b u]) Q E s:=by
 refine max_two_ints hh fun h' tk hk=>?_
 by_cases c:b>a
 ·rw [if_pos c]; have:=h u _ (H.grow0 (t:=tk) hk); rwa [Int.max_eq_right (Int.le_of_lt c)] at this
 ·rw [if_neg c]; have:=h t _ (H.grow0 (t:=tk) hk); rwa [Int.max_eq_left (Int.not_lt.mp c)] at this
theorem i_min (H:St B led s) (hh:A.handled=none) (h:∀ t s',St B led s'→Q (.int (min a b) t) s'):wpAny (model B.prog B.w) A (call (.builtin "min") [.int a t,.int b u]) Q E s:=by
 refine min_two_ints hh fun h' tk hk=>?_
 by_cases c:b<a
 ·rw [if_pos c]; have:=h u _ (H.grow0 (t:=tk) hk); rwa [Int.min_eq_right (Int.le_of_lt c)] at this
 ·rw [if_neg c]; have:=h t _ (H.grow0 (t:=tk) hk); rwa [Int.min_eq_left (Int.not_lt.mp c)] at this
theorem i_abs (H:St B led s) (h:∀ t s',St B led s'→Q (.int (if a<0 then -a else a) t) s'):wpAny (model B.prog B.w) A (call (.builtin "abs") [.int a t]) Q E s:=call_abs_int fun u tk=>h _ _ H.toks
theorem i_int (h:Q (.int a t) s):wpAny (model B.prog B.w) A (call (.type "int") [.int a t]) Q E s:=call_int_int h
end
theorem St.isL (H:St B led s) {l:Addr} {vs:List VS} (hm:(l,OS.lst vs)∈led):∃ xs n,IsL s.heap l xs n∧oks vs xs.toList:=by
 obtain ⟨o,ho,xs,n,rfl,hok⟩:=H.get hm
 exact ⟨xs,n,ho,hok⟩
theorem isList_of {h:Heap} {l:Addr} {xs:Array Value} {n:Nat} (x:IsL h l xs n):h.IsList l xs:=⟨_,x,rfl,n,rfl⟩
theorem St.isT (H:St B led s) {l:Addr} {vs:List VS} (hm:(l,OS.tup vs)∈led):∃ xs n,s.heap.get? l=some { cls:=.type "tuple",data:=.seq xs n }∧oks vs xs.toList:=by
 obtain ⟨o,ho,xs,n,rfl,hok⟩:=H.get hm
 exact ⟨xs,n,ho,hok⟩
theorem l_len {l:Addr} {vs:List VS} {Q:Value→Shared→Prop} (H:St B led s) (hm:(l,OS.lst vs)∈led) (hz:vs.length<2 ^ 40) (h:∀ t s',St B led s'→Q (.int vs.length t) s'):
  wpAny (model B.prog B.w) A (call (.builtin "len") [.ref l]) Q E s:=by
 obtain ⟨xs,n,hx,hok⟩:=H.isL hm
 have e:xs.size=vs.length:=by rw [← Array.length_toList]; exact oks_length hok
 exact call_len_list (isList_of hx) (by rw [e]; lia) (by rw [e]; exact h _ _ H.toks)
theorem l_len_ints {l:Addr} {ns:List Int} {Q:Value→Shared→Prop} (H:St B led s) (hm:(l,ilst ns)∈led) (hz:ns.length<2 ^ 40) (h:∀ t s',St B led s'→Q (.int ns.length t) s'):
  wpAny (model B.prog B.w) A (call (.builtin "len") [.ref l]) Q E s:=l_len H hm (by simpa using hz) fun t s' H'=>by
 have:=h t s' H'
 simpa using this
theorem l_item {value slice:Expr} {l:Addr} {vs:List VS} {k:Int} {u:Tok} {v:VS} {Q:Value→Shared→Prop} (H:St B led s) (hm:(l,OS.lst vs)∈led) (h0:0≤k) (hk:k<2 ^ 40) (hv:vs[k.toNat]?=some v) (h:v.all fun x=>Q x s)
  (hs:subscripted slice false (.ref l) (.int k u)=operate [.ref l,.int k u] (getItem (.ref l) (.int k u))):
  wpAny (model B.prog B.w) A (subscriptTail value slice (.ref l) (.int k u)) Q E s:=by
 obtain ⟨xs,n,hx,hok⟩:=H.isL hm
 obtain ⟨x,e,ok⟩:=oks_get _ hok hv
 obtain ⟨x',e',hq⟩:=VS.all_of h ok
 cases e'
 exact tail_any (isList_of hx).typeIs slot_list_getitem.lookup (wpAny_getItem_list (isList_of hx) h0 (by lia) (by rw [← Array.getElem?_toList]; exact e) hq) hs
theorem ints_at {ns:List Int} {k:Int} (h0:0≤k) (h1:k<ns.length):(ns.map VS.int)[k.toNat]?=some (.int (ns.getD k.toNat 0)):=by
 have hk:k.toNat<ns.length:=by exact far [_,_] [_] (.b Z0 Z1) [.e Y0 X1,.f X0 Y0] [1,1,1] (fm h1 (fm (it2 (far [] [_] (.d (.z 0) Y0) [.d (.z 0) Y0] [1,1] (fm h0 fz) rfl)) fz)) rfl
 simp [List.getElem?_map,List.getElem?_eq_getElem hk,List.getD,hk]
theorem l_item_ints {value slice:Expr} {l:Addr} {ns:List Int} {k:Int} {u:Tok} {Q:Value→Shared→Prop} (H:St B led s) (hm:(l,ilst ns)∈led) (h0:0≤k) (h1:k<ns.length) (hz:ns.length<2 ^ 40) (h:∀ t,Q (.int (ns.getD k.toNat 0) t) s)
  (hs:subscripted slice false (.ref l) (.int k u)=operate [.ref l,.int k u] (getItem (.ref l) (.int k u))):
  wpAny (model B.prog B.w) A (subscriptTail value slice (.ref l) (.int k u)) Q E s:=
 l_item H hm h0 (by lia) (ints_at h0 h1) (by exact h) hs
theorem l_get {l:Addr} {vs:List VS} {k:Int} {u:Tok} {v:VS} {Q:Value→Shared→Prop} (H:St B led s) (hm:(l,OS.lst vs)∈led) (h0:0≤k) (hk:k<2 ^ 40) (hv:vs[k.toNat]?=some v) (h:v.all fun x=>Q x s):
  wpAny (model B.prog B.w) A (getItem (.ref l) (.int k u)) Q E s:=by
 obtain ⟨xs,n,hx,hok⟩:=H.isL hm
 obtain ⟨x,e,ok⟩:=oks_get _ hok hv
 obtain ⟨x',e',hq⟩:=VS.all_of h ok
 cases e'
 exact wpAny_getItem_list (isList_of hx) h0 (by lia) (by rw [← Array.getElem?_toList]; exact e) hq
theorem l_get_ints {l:Addr} {ns:List Int} {k:Int} {u:Tok} {Q:Value→Shared→Prop} (H:St B led s) (hm:(l,ilst ns)∈led) (h0:0≤k) (h1:k<ns.length) (hz:ns.length<2 ^ 40) (h:∀ t,Q (.int (ns.getD k.toNat 0) t) s):
  wpAny (model B.prog B.w) A (getItem (.ref l) (.int k u)) Q E s:=l_get H hm h0 (by lia) (ints_at h0 h1) (by exact h)
theorem setItem_x {l:Addr} {xs:Array Value} {n:Nat} {k:Int} {t:Tok} {v:Value} {Q:Unit→Shared→Prop} (hl:IsL s.heap l xs n) (h0:0≤k) (hfit:k<2 ^ 63) (hn:k<xs.size)
  (hQ:Q () { s with heap:=s.heap.update l (Obj.mapSeq (·.setIfInBounds k.toNat v)) }):wpAny (model B.prog B.w) A (setItem (.ref l) (.int k t) v) Q E s:=by
 have hi:=isList_of hl
 unfold setItem
 try with_reducible refine wpAny_holding ?_
 first | refine wpAny_bind (wpAny_pure ?_) | skip
 refine wpAny_bind (wpAny_sequenceKey hi.typeIs (by decide) ?_)
 refine wpAny_bind (wpAny_callSpecial?_slot (name:=Str.ofString "__setitem__") hi.typeIs slot_list_setitem
  (wpAny_call_entry slot_list_setitem hi.typeIs entry_list_setitem ?_ (args_list_setitem _ _ _)))
 show wpAny _ _ (Builtin.List.listSubscript? (.int k t) >>= _) _ _ s
 refine wpAny_bind (wpAny_listSubscript_int (fitsIndex_of h0 hfit) ?_)
 clear hfit
 obtain ⟨j,rfl⟩:=Int.eq_ofNat_of_zero_le h0
 have hj:j<xs.size:=by exact far [_,_] [] (.b Z0 Z1) [.e X0 X1] [1,1] (fm hn fz) rfl
 have hx':xs[j]?=some xs[j]:=Array.getElem?_eq_getElem hj
 show wpAny _ _ ((seqItemAt l j >>= fun r=>pure (r.map (j,·))) >>= _) _ _ s
 refine wpAny_bind (wpAny_bind (wpAny_seqItemAt hl rfl (wpAny_pure ?_)))
 rw [hx']
 show wpAny _ _ (setSeqItemAt l j v >>= _) _ _ s
 refine wpAny_bind (wpAny_setSeqItemAt hl rfl ?_)
 first
  | exact wpAny_bind (wpAny_pure (wpAny_pure ⟨.none,rfl,wpAny_pure hQ⟩))
  | exact wpAny_pure ⟨.none,rfl,wpAny_pure hQ⟩
theorem l_set {l:Addr} {vs:List VS} {k:Int} {u:Tok} {v:VS} {x:Value} {Q:Unit→Shared→Prop} (H:St B led s) (U:Up l (.lst vs) (.lst (vs.set k.toNat v)) led led') (h0:0≤k) (h1:k<vs.length) (hz:vs.length<2 ^ 40) (hv:v.ok (some x))
  (h:∀ s',St B led' s'→Q () s'):wpAny (model B.prog B.w) A (setItem (.ref l) (.int k u) x) Q E s:=by
 obtain ⟨xs,n,hx,hok⟩:=H.isL U.mem
 have e:xs.size=vs.length:=by rw [← Array.length_toList]; exact oks_length hok
 refine setItem_x hx h0 (by lia) (by rw [e]; exact h1) (h _ ?_)
 refine H.change U (Heap.SameBut.update ..).extBut (hx.update _) ⟨_,_,rfl,?_⟩
 rw [Array.toList_setIfInBounds]
 exact oks_set _ hok hv
theorem l_set_ints {l:Addr} {ns:List Int} {k j:Int} {u t:Tok} {Q:Unit→Shared→Prop} (H:St B led s) (U:Up l (ilst ns) (ilst (ns.set k.toNat j)) led led') (h0:0≤k) (h1:k<ns.length) (hz:ns.length<2 ^ 40)
  (h:∀ s',St B led' s'→Q () s'):wpAny (model B.prog B.w) A (setItem (.ref l) (.int k u) (.int j t)) Q E s:=by
 unfold ilst at U
 rw [List.map_set] at U
 exact l_set H U h0 (by simpa using h1) (by simpa using hz) ⟨t,rfl⟩ h
theorem l_append {l:Addr} {vs:List VS} {v:VS} {x:Value} {Q:Value→Shared→Prop} (H:St B led s) (U:Up l (.lst vs) (.lst (vs++[v])) led led') (hz:vs.length≤1000000) (hv:v.ok (some x)) (h:∀ s',St B led' s'→Q .none s'):
  wpAny (model B.prog B.w) A (call (.builtin "list.append") [.ref l,x]) Q E s:=by
 obtain ⟨xs,n,hx,hok⟩:=H.isL U.mem
 have e:xs.size=vs.length:=by rw [← Array.length_toList]; exact oks_length hok
 refine append_at hx (fun h' hs ho=>h _ ?_) (by rw [e]; show _≤2 ^ 24; lia)
 refine H.change U hs.extBut ho ⟨_,_,rfl,?_⟩
 rw [Array.toList_push]
 exact oks_append hok ⟨hv,trivial⟩
theorem l_append_ints {l:Addr} {ns:List Int} {k:Int} {t:Tok} {Q:Value→Shared→Prop} (H:St B led s) (U:Up l (ilst ns) (ilst (ns++[k])) led led') (hz:ns.length≤1000000) (h:∀ s',St B led' s'→Q .none s'):
  wpAny (model B.prog B.w) A (call (.builtin "list.append") [.ref l,.int k t]) Q E s:=by
 unfold ilst at U
 rw [List.map_append] at U
 exact l_append (v:=.int k) H U (by simpa using hz) ⟨t,rfl⟩ h
theorem l_new {vs:List VS} {xs:List Value} {Q:Value→Shared→Prop} (H:St B led s) (hok:oks vs xs) (hz:vs.length≤1000000) (h:∀ l s',St B ((l,.lst vs)::led) s'→Q (.ref l) s'):wpAny (model B.prog B.w) A (newList xs) Q E s:=
 wpAny_newObj_type (h _ _ (H.push _ ⟨_,_,rfl,by simpa using hok⟩)) (by show xs.toArray.size≤2 ^ 24; rw [List.size_toArray,oks_length hok]; lia)
theorem t_new {vs:List VS} {xs:List Value} {Q:Value→Shared→Prop} (H:St B led s) (hok:oks vs xs) (hz:vs.length≤1000000) (h:∀ l s',St B ((l,.tup vs)::led) s'→Q (.ref l) s'):wpAny (model B.prog B.w) A (newTuple xs) Q E s:=
 wpAny_newObj_type (h _ _ (H.push _ ⟨_,_,rfl,by simpa using hok⟩)) (by show xs.toArray.size≤2 ^ 24; rw [List.size_toArray,oks_length hok]; lia)
theorem t_item {value slice:Expr} {l:Addr} {vs:List VS} {k:Int} {u:Tok} {v:VS} {Q:Value→Shared→Prop} (H:St B led s) (hm:(l,OS.tup vs)∈led) (h0:0≤k) (hk:k<2 ^ 40) (hv:vs[k.toNat]?=some v) (h:v.all fun x=>Q x s)
  (hs:subscripted slice false (.ref l) (.int k u)=operate [.ref l,.int k u] (getItem (.ref l) (.int k u))):
  wpAny (model B.prog B.w) A (subscriptTail value slice (.ref l) (.int k u)) Q E s:=by
 obtain ⟨xs,n,hx,hok⟩:=H.isT hm
 obtain ⟨x,e,ok⟩:=oks_get _ hok hv
 obtain ⟨x',e',hq⟩:=VS.all_of h ok
 cases e'
 have hl:=oks_length hok
 have hlt:k.toNat<vs.length:=(List.getElem?_eq_some_iff.mp hv).1
 refine item_tupleT (l:=xs.toList) (j:=k.toNat) ⟨_,hx,rfl,n,by simp⟩ (by lia) (by lia) (seqIndex_of h0 (by rw [hl]; exact far [_,_] [_] (.e Y0 X0) [.b Z1 Z0,.d Y0 X1] [1,1,1] (fm hlt (fm (it1 _) fz)) rfl)) e hq hs
end
end Mine
namespace Mine
open PySem PySem.W PyProof.Rows PySem.Spec PySem.Calls Builtin Builtin.ObjectAttr
noncomputable def VS.real:VS→Bool
 | .any=>false
 | .str _=>false
 | .is (.builtin _)=>false
 | _=>true
theorem VS.real_some {v:VS} (h:v.real=true) {o:Option Value} (k:v.ok o):∃ u,o=some u∧handedIn u=true:=by
 cases v with
 | int i=>obtain ⟨t,rfl⟩:=k; exact ⟨_,rfl,rfl⟩
 | ref a=>exact ⟨_,k,rfl⟩
 | bool a=>exact ⟨_,k,rfl⟩
 | none=>exact ⟨_,k,rfl⟩
 | is a=>refine ⟨_,k,?_⟩; cases a <;> first | rfl | cases h
 | str a=>cases h
 | any=>cases h
theorem lookIn_ns {o:Obj} {es:Array DictEntry} {n:Nat} {name:Str} (hd:o.data=.dict es n) (hk:StrKeys es):lookIn name o=some (nsFind es name):=by
 unfold lookIn nsFind findBy
 rw [hd]
 dsimp only
 rw [← Array.find?_toList]
 cases q:es.toList.find? (fun e=>e.key.isStr name) with
 | some e=>rfl
 | none=>
  have:es.toList.any (·.refKey)=false:=by
   rw [List.any_eq_false]
   intro e he
   obtain ⟨x,t,z⟩:=hk e (Array.mem_toList_iff.mp he)
   simp [DictEntry.refKey,z]
  dsimp only
  rw [this]; rfl
theorem putName_ns {o:Obj} {es:Array DictEntry} {n:Nat} {name:Str} {hsh:Int} {tk:Tok} {v:Value} (hd:o.data=.dict es n) (hk:StrKeys es):
  ∃ es' n',(Obj.putName name hsh (.str name tk) v o).data=.dict es' n'∧StrKeys es'∧(∀ y,nsFind es' y=if y=name then some v else nsFind es y)∧(nsFind es name≠none→es'.size=es.size)∧es'.size≤es.size+1:=by
 obtain ⟨c,d,dt,sl⟩:=o
 subst hd
 rw [Obj.putName_eq]
 unfold Obj.putNameByArray
 cases hi:es.findIdx? (·.key.isStr name) with
 | some i=>
  refine ⟨_,_,by simp only [hi]; rfl,hk.modify _ _,fun x=>findBy_modify (fun n v=>v.isStr n) Value.isStr_inj es name x v i hi,fun _=>by simp,by simp⟩
 | none=>
  refine ⟨_,_,by simp only [hi]; rfl,hk.push _ _ _ _,fun x=>?_,fun hne=>?_,by simp⟩
  ·exact findBy_push (fun n v=>v.isStr n) es name x _ _ v (fun y=>by
    show (name == y)=decide (y=name)
    by_cases h:y=name
    ·subst h; simp
    ·have:¬ name=y:=fun e=>h e.symm
     simp [h,this]) hi
  ·refine absurd ?_ hne
   unfold nsFind
   rw [findBy_of_findIdx?,hi]
section
variable {B:Bs} {A:Around} {led led':Led} {s:Shared} {E:Value→Shared→Prop} {env:Env} {K:Frag} {x dx C:Addr} {l l':List (Str×VS)} {name:Str} {v:VS}
theorem St.inst (H:St B led s) (hx:(x,OS.inst C dx)∈led) (hd:(dx,OS.attrs l)∈led):
  ∃ ox od es n,InstAt s.heap x ox C (some od)∧ox.dict=some dx∧s.heap.get? dx=some od∧od.data=.dict es n∧StrKeys es∧es.size≤l.length∧nsOk l (nsFind es):=by
 obtain ⟨ox,ho,h1,h2,h3⟩:=H.get hx
 obtain ⟨od,hod,es,n,k1,k2,k3,k4⟩:=H.get hd
 exact ⟨ox,od,es,n,⟨ho,h1,by unfold notCls; rw [h3],by rw [h2]; exact hod⟩,h2,hod,k1,k2,k3,k4⟩
theorem a_get {expr:Bool} {attr:Option Value} {Q:Value→Shared→Prop} (H:St B led s) (X:K.In B.base) (hx:(x,OS.inst C dx)∈led) (hd:(dx,OS.attrs l)∈led) (hn:(name,v)∈l) (hr:v.real=true)
  (hg:plainGet K C name=true) (hh:hasDictIn K C=true) (ha:findIn K (.ref C) name=some attr) (hng:noGet K attr=true) (h:∀ s',St B led s'→v.all fun u=>Q u s'):
  wpAny (model B.prog B.w) A (getAttr (.ref x) name expr) Q E s:=by
 obtain ⟨ox,od,es,n,I,_,_,k1,k2,_,k4⟩:=H.inst hx hd
 have X':K.In s.heap:=fun a o e=>H.keep _ _ (X a o e)
 obtain ⟨u,hu,hq⟩:=VS.all_of (h _ H.toks) (k4.has _ hn)
 obtain ⟨u',hu',hv⟩:=VS.real_some hr (k4.has _ hn)
 rw [hu] at hu'; cases hu'
 exact get_value X' I (plainGet_of hg).1 (findObj_own hh ha hng (by rw [lookIn_ns k1 k2,hu])) hv hq
theorem a_meth {pl:Sem Bool} {f:Addr} {Q:Value×List Value→Shared→Prop} (H:St B led s) (X:K.In B.base) (hx:(x,OS.inst C dx)∈led) (hd:(dx,OS.attrs l)∈led) (hn:name ∉ l.map (·.1))
  (hg:plainGet K C name=true) (hf:findIn K (.ref C) name=some (some (.ref f))) (ht:isFn K (.ref f)=true) (h:Q (.ref f,[.ref x]) s):
  wpAny (model B.prog B.w) A (getMethod (.ref x) name pl) Q E s:=by
 obtain ⟨ox,od,es,n,I,_,_,k1,k2,_,k4⟩:=H.inst hx hd
 have X':K.In s.heap:=fun a o e=>H.keep _ _ (X a o e)
 refine method_fn X' I (plainGet_of hg).1 (plainGet_of hg).2 hf (beq_iff_eq.mp ht) ?_ h
 show (lookIn name od).map _=_
 rw [lookIn_ns k1 k2,k4.only _ hn]; rfl
theorem osa_x {ox od:Obj} {tk:Tok} {u:Value} {R:Result→Shared→Prop} {es:Array DictEntry} {n:Nat} (X:K.In s.heap) (I:InstAt s.heap x ox C (some od)) (hdx:ox.dict=some dx) (hod:s.heap.get? dx=some od) (hd:od.data=.dict es n) (hk:StrKeys es) (hz:es.size≤900)
  (hp:plainOver K C=true) (ht:takerIn K C name=some none) (hh:(clsIn K C).any (·.hasDict)=true)
  (h:R (.ok (.ret .none)) { s with heap:=s.heap.update dx (Obj.putName name (PyData.keyHash B.w.params name) (.str name s.toks) u),toks:=s.toks+1 }):
  codeAny (model B.prog B.w) A (.call (.builtin "object.__setattr__") ⟨[.ref x,.str name tk,u],[]⟩) R s:=by
 refine osa_open X I hp ht fun b=>?_
 obtain ⟨cd,hc,hd'⟩:=any_some hh
 obtain ⟨hx,hcl,hn,-⟩:=I
 obtain ⟨oc,odi,oda,osl⟩:=ox
 dsimp only at hcl hdx
 subst hcl hdx
 obtain ⟨es',n',p1,p2,p3,p4,p5⟩:=putName_ns (name:=name) (hsh:=PyData.keyHash B.w.params name) (tk:=s.toks) (v:=u) hd hk
 have D':=Heap.get?_update_self (Obj.putName name (PyData.keyHash B.w.params name) (.str name s.toks) u) hod (Obj.isFreed_of_dict p1)
 refine wpAny_bind (wpAny_pure (wpAny_bind (wpAny_bind (wpAny_loadPart hx (wpAny_bind ((looks_clsIn X hc).here ?_))))))
 rw [hd']
 refine wpAny_pure (a:=some dx) (wpAny_bind (wpAny_pure (wpAny_bind ?_)))
 unfold nsSet
 refine wpAny_bind (wpAny_bind (wpAny_askSetting (wpAny_pure (wpAny_bind (wpAny_mkText (wpAny_bind (wpAny_loadPart hod ?_)))))))
 rw [hd]
 dsimp only
 have hany:es.any (·.refKey)=false:=by
  rw [Array.any_eq_false']; intro e he; obtain ⟨n,t,h⟩:=hk e he; simp [DictEntry.refKey,h]
 have c:(!es.any (·.key.isStr name)&&es.any (·.refKey))=false:=by rw [hany,Bool.and_false]
 rw [aRefKeyMayBeTheName_at,c]
 refine wpAny_updatePart hod ?_
 refine wpAny_bind (wpAny_lookBehind D' (by rw [p1]; exact pastItsLine_dict (by rw [sizeLine_eq]; exact far [_,_] [] (.a Z0 (.p (.n 16777216) (.n 1))) [.a Z1 (.n 900),.a Z0 (.p Z1 (.n 1))] [1,1,1] (fm hz (fm p5 fz)) rfl)) ?_)
 exact wpAny_pure h
theorem a_set {u₀:VS} {u:Value} {Q:Unit→Shared→Prop} (H:St B led s) (X:K.In B.base) (hx:(x,OS.inst C dx)∈led) (U:Up dx (.attrs l) (.attrs l') led led') (P:Put name v l l') (hn:(name,u₀)∈l) (hr:u₀.real=true) (hv:v.ok (some u)) (hz:l.length≤900)
  (hs:findIn K (.ref C) "__setattr__" = some (some (.builtin "object.__setattr__"))) (hp:plainOver K C=true) (ht:takerIn K C name=some none) (hh:hasDictIn K C=true) (h:∀ s',St B led' s'→Q () s'):
  wpAny (model B.prog B.w) A (setAttr (.ref x) name u) Q E s:=by
 obtain ⟨ox,od,es,n,I,hdx,hod,k1,k2,k3,k4⟩:=H.inst hx U.mem
 have X':K.In s.heap:=fun a o e=>H.keep _ _ (X a o e)
 refine set_plain X' I hs (osa_x (s:={ s with toks:=s.toks+1 }) X' I hdx hod k1 k2 (by exact Nat.le_trans ‹_› ‹_›) hp ht hh (h _ ?_))
 obtain ⟨es',n',p1,p2,p3,p4,p5⟩:=putName_ns (name:=name) (hsh:=PyData.keyHash B.w.params name) (tk:=s.toks+1) (v:=u) k1 k2
 have hne:nsFind es name≠none:=by
  obtain ⟨u',hu',_⟩:=VS.real_some hr (k4.has _ hn)
  rw [hu']; intro e; cases e
 have hlen:l'.length=l.length:=by rw [← List.length_map (f:=(·.1)),P.addr,List.length_map]
 exact H.change U (Heap.SameBut.update ..).extBut (Heap.get?_update_self _ hod (Obj.isFreed_of_dict p1)) ⟨es',n',p1,p2,by rw [p4 hne,hlen]; exact k3,k4.put P hv p3⟩
theorem a_new {u:Value} {Q:Unit→Shared→Prop} (H:St B led s) (X:K.In B.base) (hx:(x,OS.inst C dx)∈led) (U:Up dx (.attrs l) (.attrs (l++[(name,v)])) led led') (hn:name ∉ l.map (·.1)) (hv:v.ok (some u)) (hz:l.length≤900)
  (hs:findIn K (.ref C) "__setattr__" = some (some (.builtin "object.__setattr__"))) (hp:plainOver K C=true) (ht:takerIn K C name=some none) (hh:hasDictIn K C=true) (h:∀ s',St B led' s'→Q () s'):
  wpAny (model B.prog B.w) A (setAttr (.ref x) name u) Q E s:=by
 obtain ⟨ox,od,es,n,I,hdx,hod,k1,k2,k3,k4⟩:=H.inst hx U.mem
 have X':K.In s.heap:=fun a o e=>H.keep _ _ (X a o e)
 refine set_plain X' I hs (osa_x (s:={ s with toks:=s.toks+1 }) X' I hdx hod k1 k2 (by exact Nat.le_trans ‹_› ‹_›) hp ht hh (h _ ?_))
 obtain ⟨es',n',p1,p2,p3,p4,p5⟩:=putName_ns (name:=name) (hsh:=PyData.keyHash B.w.params name) (tk:=s.toks+1) (v:=u) k1 k2
 refine H.change U (Heap.SameBut.update ..).extBut (Heap.get?_update_self _ hod (Obj.isFreed_of_dict p1)) ⟨es',n',p1,p2,by rw [List.length_append]; simp; exact far [_,_,_] [] (.a Z0 (.p Z1 (.n 1))) [.a Z2 Z1,.a Z0 (.p Z2 (.n 1))] [1,1,1] (fm k3 (fm p5 fz)) rfl,?_,?_,fun y hy=>?_⟩
 ·intro p hp
  rcases List.mem_append.mp hp with hp | hp
  ·have hne:p.1≠name:=fun e=>hn (e ▸ List.mem_map_of_mem (f:=(·.1)) hp)
   rw [p3,if_neg hne]; exact k4.has p hp
  ·obtain rfl:=List.mem_singleton.mp hp
   rw [p3,if_pos rfl]; exact hv
 ·rw [List.map_append,List.nodup_append]
  refine ⟨k4.nodup,by simp,fun a ha b hb e=>?_⟩
  simp at hb
  subst hb e
  exact hn ha
 ·rw [List.map_append] at hy
  simp only [List.map_cons,List.map_nil,List.mem_append,List.mem_singleton,not_or] at hy
  rw [p3,if_neg hy.2]
  exact k4.only y hy.1
theorem o_make {f:Addr} {args:List Value} {n:Nat} {envs:List Env} {Q:Value→Shared→Prop} (H:St B led s) (X:K.In B.base) (R:Rm A envs (n+1)) (hm:makesIn K C=true) (hi:findIn K (.ref C) "__init__" = some (some (.ref f))) (hf:isFn K (.ref f)=true)
  (h:∀ x dx s' A',St B ((x,.inst C dx)::(dx,.attrs [])::led) s'→Rm A' envs n→codeAny (model B.prog B.w) A' (.call (.ref f) ⟨.ref x::args,[]⟩) (RQ (fun v s'=>v=.none∧Q (.ref x) s') E) s'):
  codeAny (model B.prog B.w) A (.call (.ref C) ⟨args,[]⟩) (RQ Q E) s:=by
 have X':K.In s.heap:=fun a o e=>H.keep _ _ (X a o e)
 obtain ⟨hp,g,d,t,os⟩:=s
 refine make_core (makes_of X' hm) (looks_findIn X' hi) (fun self=>bind_fn X' self (beq_iff_eq.mp hf)) (.inl rfl) ?_
 have H1:St B ((hp.objs.size,.attrs [])::led) ⟨hp.push emptyDict,g,d,t,os⟩:=by
  refine H.push emptyDict ⟨#[],0,rfl,fun e he=>?_,Nat.le_refl _,?_⟩
  ·simp at he
  ·exact ⟨fun p hp=>(nomatch hp),List.nodup_nil,fun x _=>rfl⟩
 have H2:=H1.push (o:=.inst C hp.objs.size) (t:=t) (instObj C hp.objs.size) ⟨rfl,rfl,rfl⟩
 simp only [Heap.size_push] at H2
 refine codeAny_mono (h _ _ _ _ H2 R.under) fun r s' q=>?_
 cases r with
 | error e=>exact q
 | ok fl=>
  cases fl with
  | ret v=>exact q
  | _=>exact q.elim
end
end Mine
namespace Mine
open PySem PySem.W PyProof.Rows PySem.Spec PySem.Calls
section
variable {B:Bs} {A:Around} {led led':Led} {s:Shared} {E:Value→Shared→Prop} {env:Env} {K:Frag}
theorem sp_nil {pos:Pos} {Q:List Value→Shared→Prop} (h:Q [] s):wpAny (model B.prog B.w) A (spliced (backTo pos (starEach [] env))) Q E s:=wpAny_pure h
theorem sp_cons {pos:Pos} {e:Expr} {rest:List Expr} {Q:List Value→Shared→Prop} (he:starEach (e::rest) env=(false,eval e env)::starEach rest env)
  (h:wpAny (model B.prog B.w) A (eval e env) (fun v s₁=>wpAny (model B.prog B.w) A (spliced (backTo pos (starEach rest env))) (fun vs s₂=>Q (v::vs) s₂) E s₁) E s):
  wpAny (model B.prog B.w) A (spliced (backTo pos (starEach (e::rest) env))) Q E s:=by
 rw [he]
 show wpAny _ _ (do
  let v ← eval e env
  let here ← if (false:Bool) then do
    if ← notIterableAtAll v then
     rule "star.not-iterable"; raiseError "TypeError" s!"Value after * must be an iterable, not {← typeNameOf v}"
    collect v
   else pure [v]
  return here++(← holding here (spliced (backTo pos (starEach rest env))))) Q E s
 refine wpAny_bind (wpAny_mono h (fun v s₁ q=>?_) fun _ _ x=>x)
 rw [if_neg (by decide)]
 refine wpAny_bind (wpAny_pure (wpAny_bind (wpAny_holding (wpAny_mono q (fun vs s₂ z=>wpAny_pure z) fun _ _ x=>x))))
theorem ev_args {f:Value} {args:List (Bool×Sem Value)} {Q:Args→Shared→Prop} (e:args.any (·.1)=false) (h:wpAny (model B.prog B.w) A (spliced args) (fun vs s'=>Q { pos:=vs } s') E s):wpAny (model B.prog B.w) A (evalArgs f true args []) Q E s:=by
 match args,e,h with
 | (true,_)::_,e,_=>simp at e
 | (false,x)::rest,_,h=>exact evalArgs_plain h
 | [],_,h=>
  unfold evalArgs
  show wpAny _ _ (spliced [] >>= fun vs=>pure (vs,none) >>= _) Q E s
  refine wpAny_bind (wpAny_mono h (fun vs s' q=>wpAny_bind (wpAny_pure ?_)) fun _ _ x=>x)
  show wpAny _ _ (holding _ _) _ _ _
  refine wpAny_holding ?_
  rw [if_pos (by rfl)]
  exact wpAny_bind (wpAny_pure (wpAny_bind (wpAny_pure (wpAny_pure q))))
section
variable {pos:Pos} {args:List Expr} {first:List Value} {Q:Value→Shared→Prop}
theorem cw_builtin {id : String} (hp : (backTo pos (starEach args env)).any (·.1) = false) (h : wpAny (model B.prog B.w) A (spliced (backTo pos (starEach args env))) (fun vs s₁ => wpAny (model B.prog B.w) A (call (.builtin id) (first ++ vs)) Q E s₁) E s) :
  wpAny (model B.prog B.w) A (callWith pos (.builtin id) first (backTo pos (starEach args env)) []) Q E s:=callWith_builtin hp (ev_args hp h)
theorem cw_type {id : String} (hp : (backTo pos (starEach args env)).any (·.1) = false) (h : wpAny (model B.prog B.w) A (spliced (backTo pos (starEach args env))) (fun vs s₁ => wpAny (model B.prog B.w) A (call (.type id) (first ++ vs)) Q E s₁) E s) :
  wpAny (model B.prog B.w) A (callWith pos (.type id) first (backTo pos (starEach args env)) []) Q E s:=PyProof.Rows.callWith_type hp (ev_args hp h)
noncomputable def Then (B:Bs) (P:Prop) (s:Shared):Prop:=B.base.StaysIn s.heap∧P
theorem then_ {P:Prop} (H:St B led s) (h:P):Then B P s:=⟨H.keep,h⟩
theorem cw_ref {f : Addr} (X : K.In B.base) (hk : keepIn K (.ref f) = true) (hp : (backTo pos (starEach args env)).any (·.1) = false)
  (h:wpAny (model B.prog B.w) A (spliced (backTo pos (starEach args env))) (fun vs s₁=>Then B (wpAny (model B.prog B.w) A (call (.ref f) (first++vs)) Q E s₁) s₁) E s):
  wpAny (model B.prog B.w) A (callWith pos (.ref f) first (backTo pos (starEach args env)) []) Q E s:=by
 refine callWith_of (P:=fun h=>B.base.StaysIn h) (by rw [hp]; rfl) (fun hp k=>?_) (ev_args hp (wpAny_mono h (fun vs s₁ q=>q) fun _ _ x=>x))
 obtain ⟨kk,h1,h2⟩:=looks_keep (M:=model B.prog B.w) hk (fun a o e=>k _ _ (X a o e):K.In hp)
 exact ⟨kk,h1.elim .inl fun q=>.inr (.inl q),h2⟩
theorem ev_meth {o:Expr} {name:Str} {apos:Pos} {pl:Sem Bool}
  (h:wpAny (model B.prog B.w) A (eval o env) (fun ov s₁=>wpAny (model B.prog B.w) A (getMethod ov name pl) (fun fx s₂=>wpAny (model B.prog B.w) A (callWith pos fx.1 fx.2 (backTo pos (starEach args env)) []) Q E s₂) E s₁) E s)
  (he:eval (.Call (.Attribute o name apos) args [] pos) env=(do
     let ov ← eval o env
     standAt apos.atName
     let __x ← holding [ov] (getMethod ov name pl)
     match __x with
      | (f,first)=>callWith pos f first (backTo pos (starEach args env)) (backToKw pos (keywordEach [] env)))):
  wpAny (model B.prog B.w) A (eval (.Call (.Attribute o name apos) args [] pos) env) Q E s:=methodCall_KW h he
end
noncomputable def itrList (B:Bs) (l:Addr) (vs:List VS):Itr B where
 n:=vs.length
 at_:=fun i=>.rcd "list_iterator" #[.ref l,.int (i:Nat) 0]
 item:=fun i=>vs[i]?.getD .any
 serves:=fun led=>(l,.lst vs)∈led
 next:=by
  intro A ia i led s Q E hh H hs hi h
  obtain ⟨xs,n,hx,hok⟩:=H.isL (.tail _ hs)
  obtain ⟨o,ho,hc,hd⟩:=H.get (.head _)
  have hv:vs[i]?=some vs[i]:=by simp [hi]
  obtain ⟨x,e,ok⟩:=oks_get _ hok hv
  refine wpAny_pyNext_list_item (i:=i) ⟨o,ho,hc,hd⟩ (isList_of hx) (by rw [← Array.getElem?_toList]; exact e) fun h' ⟨o',ho',hc',hd'⟩ hsb=>?_
  have q:=h _ (H.change (t:=s.toks) .head hsb.extBut ho' ⟨hc',hd'⟩)
  simp only [hv,Option.getD_some] at q
  obtain ⟨u,hu,q⟩:=VS.all_of q ok
  cases hu
  exact q
 stop:=by
  intro A ia i led s Q E hh H hs hi h
  obtain ⟨xs,n,hx,hok⟩:=H.isL (.tail _ hs)
  obtain ⟨o,ho,hc,hd⟩:=H.get (.head _)
  refine wpAny_pyNext_list_end (i:=i) hh ⟨o,ho,hc,hd⟩ (isList_of hx) ?_ fun h' hx'=>h _ (H.lose hx')
  rw [Array.getElem?_eq_none_iff,← Array.length_toList,oks_length hok]; exact Nat.le_of_eq hi.symm
theorem it_list {l:Addr} {vs:List VS} {Q:Value→Shared→Prop} (H:St B led s) (hm:(l,OS.lst vs)∈led) (h:∀ ia s',St B ((ia,(itrList B l vs).at_ 0)::led) s'→Q (.ref ia) s'):wpAny (model B.prog B.w) A (pyIter (.ref l)) Q E s:=by
 obtain ⟨xs,n,hx,hok⟩:=H.isL hm
 exact wpAny_pyIter_list (isList_of hx) (h _ _ (H.push _ ⟨rfl,rfl⟩))
noncomputable def itrRange (B:Bs) (a c:Int) (n:Nat):Itr B where
 n:=n
 at_:=fun i=>.raw { cls:=.type "range_iterator",dict:=none,data:=.fields #[rawInt (a+i*c),rawInt (n-i),rawInt c],slots:=#[] }
 item:=fun i=>.int (a+i*c)
 serves:=fun _=>True
 next:=by
  intro A ia i led s Q E hh H hs hi h
  obtain ⟨o,ho,rfl⟩:=H.get (.head _)
  refine wpAny_pyNext_range_item ho (by exact far [_,_] [] (.e (.z 0) (.s X0 X1)) [.b Z1 Z0] [1,1] (fm hi fz) rfl) fun h' hit hsb=>?_
  have e1:a+(i:Nat)*c+c=a+((i+1:Nat):Int)*c:=by rw [Int.natCast_add,Int.add_mul]; lia
  have e2:(n:Int)-(i:Nat)-1=(n:Int)-((i+1:Nat):Int):=by exact Int.le_antisymm (far [_,_] [] (.d (.s (.s X0 X1) (.z 1)) (.s X0 (.t (.p Z1 (.n 1))))) [] [1] fz rfl) (far [_,_] [] (.d (.s X0 (.t (.p Z1 (.n 1)))) (.s (.s X0 X1) (.z 1))) [] [1] fz rfl)
  unfold IsRangeIter at hit
  rw [e1,e2] at hit
  exact h _ (H.change .head hsb.extBut hit rfl) _
 stop:=by
  intro A ia i led s Q E hh H hs hi h
  obtain ⟨o,ho,rfl⟩:=H.get (.head _)
  exact wpAny_pyNext_range_end hh ho (by exact far [_,_] [] (.d (.s X0 X1) (.z 0)) [.c Z1 Z0] [1,-1] (fm hi fz) rfl) fun h' hx'=>h _ (H.lose hx')
end
end Mine
namespace Mine
open PySem PySem.W PyProof.Rows PySem.Spec PySem.Calls
section
variable {B:Bs} {A:Around} {led led':Led} {s:Shared} {E:Value→Shared→Prop} {env:Env}
theorem l_nodict (H:St B led s) {l:Addr} {vs:List VS} (hm:(l,OS.lst vs)∈led):s.heap.NoDictAt (.ref l):=by
 obtain ⟨xs,n,hx,hok⟩:=H.isL hm
 exact ⟨_,hx,rfl⟩
theorem l_meth_append {l:Addr} {vs:List VS} {pl:Sem Bool} {Q:Value×List Value→Shared→Prop} (H:St B led s) (hm:(l,OS.lst vs)∈led) (h:Q (.builtin "list.append",[.ref l]) s):
  wpAny (model B.prog B.w) A (getMethod (.ref l) "append" pl) Q E s:=by
 obtain ⟨xs,n,hx,hok⟩:=H.isL hm
 exact getMethod_list_append hx rfl rfl h
theorem l_meth_pop {l:Addr} {vs:List VS} {pl:Sem Bool} {Q:Value×List Value→Shared→Prop} (H:St B led s) (hm:(l,OS.lst vs)∈led) (h:Q (.builtin "list.pop",[.ref l]) s):
  wpAny (model B.prog B.w) A (getMethod (.ref l) "pop" pl) Q E s:=by
 obtain ⟨xs,n,hx,hok⟩:=H.isL hm
 exact getMethod_list_of PySem.F.slot_list_pop (by first | exact PySem.F.type_list_pop | (show builtinType _=_; rw [builtinType_eq_fast]; kernel_rfl)) (isList_of hx) (l_nodict H hm) h
theorem l_meth_append_i {l:Addr} {ns:List Int} {pl:Sem Bool} {Q:Value×List Value→Shared→Prop} (H:St B led s) (hm:(l,ilst ns)∈led) (h:Q (.builtin "list.append",[.ref l]) s):
  wpAny (model B.prog B.w) A (getMethod (.ref l) "append" pl) Q E s:=l_meth_append H hm h
theorem i_meth_bl {a:Int} {t:Tok} {pl:Sem Bool} {Q:Value×List Value→Shared→Prop} (h:Q (.builtin "int.bit_length",[.int a t]) s):
  wpAny (model B.prog B.w) A (getMethod (.int a t) "bit_length" pl) Q E s:=getMethod_int_bit_length h
theorem i_bl {a:Int} {t:Tok} {Q:Value→Shared→Prop} (H:St B led s) (h:∀ t s',St B led s'→Q (.int (Builtin.Int.intBits a) t) s'):
  wpAny (model B.prog B.w) A (call (.builtin "int.bit_length") [.int a t]) Q E s:=call_int_bit_length (h _ _ H.toks)
theorem as_tup2 {e1 e2:Expr} {c} {pos:Pos} {t:Addr} {v1 v2:VS} {Q:Unit→Shared→Prop} (H:St B led s) (hh:A.handled=none) (hm:(t,OS.tup [v1,v2])∈led)
  (hs:assignEach [e1,e2] env=[(false,assign e1 env),(false,assign e2 env)])
  (h:∀ s',St B led s'→v1.all fun x1=>v2.all fun x2=>wpAny (model B.prog B.w) A (assign e1 env x1) (fun _ s1=>wpAny (model B.prog B.w) A (assign e2 env x2) Q E s1) E s'):
  wpAny (model B.prog B.w) A (assign (.Tuple [e1,e2] c pos) env (.ref t)) Q E s:=by
 obtain ⟨xs,n,hx,hok⟩:=H.isT hm
 have hl:=oks_length hok
 have hsz:xs.size=2:=by rw [← Array.length_toList]; exact hl
 refine assign_Tuple_tuple (items:=xs) hh ⟨_,hx,rfl,n,rfl⟩ (by rw [hs,hsz]; rfl) (by rw [hs]; rfl) fun h' he=>?_
 obtain ⟨x1,x2,e⟩:=len2 hl
 rw [hs,e]
 rw [e] at hok
 have H':St B led { s with heap:=h',toks:=s.toks }:=H.grow0 fun b o q=>he b o (fun z=>by rw [z,size_none] at q; cases q) q
 obtain ⟨u1,e1',q1⟩:=VS.all_of (h _ H') hok.1
 cases e1'
 obtain ⟨u2,e2',q2⟩:=VS.all_of q1 hok.2.1
 cases e2'
 show wpAny _ _ (do holding [x2] (assign e1 env x1); (do holding [] (assign e2 env x2); pure ())) _ _ _
 refine wpAny_bind (wpAny_holding (wpAny_mono q2 (fun _ s1 z=>?_) fun _ _ x=>x))
 exact wpAny_bind (wpAny_holding (wpAny_mono z (fun _ s2 y=>wpAny_pure y) fun _ _ x=>x))
theorem r_one {b:Int} {t:Tok} {Q:Value→Shared→Prop} (H:St B led s) (h:∀ r s',St B ((r,.pred fun o=>∃ t u v,o={ cls:=.type "range",dict:=none,data:=.fields #[.int 0 t,.int b u,.int 1 v],slots:=#[] })::led) s'→Q (.ref r) s'):
  wpAny (model B.prog B.w) A (call (.type "range") [.int b t]) Q E s:=
 call_range_1 (h _ _ (H.push _ ⟨_,_,_,rfl⟩))
theorem r_two {a b:Int} {t u:Tok} {Q:Value→Shared→Prop} (H:St B led s) (h:∀ r s',St B ((r,.pred fun o=>∃ t u v,o={ cls:=.type "range",dict:=none,data:=.fields #[.int a t,.int b u,.int 1 v],slots:=#[] })::led) s'→Q (.ref r) s'):
  wpAny (model B.prog B.w) A (call (.type "range") [.int a t,.int b u]) Q E s:=
 call_range_2 (h _ _ (H.push _ ⟨_,_,_,rfl⟩))
theorem r_three {a b:Int} {t u v:Tok} {Q:Value→Shared→Prop} (H:St B led s) (hz:(b-a).natAbs<2 ^ 40) (h:∀ r s',St B ((r,.pred fun o=>∃ t u v,o={ cls:=.type "range",dict:=none,data:=.fields #[.int a t,.int b u,.int (-1) v],slots:=#[] })::led) s'→Q (.ref r) s'):
  wpAny (model B.prog B.w) A (call (.type "range") [.int a t,.int b u,.int (-1) v]) Q E s:=
 call_range_3 (by decide) (h _ _ (H.push _ ⟨_,_,_,rfl⟩)) (Or.inl (PyProof.noPylong_small (by decide)))
theorem it_range1 {r:Addr} {a b:Int} {Q:Value→Shared→Prop} (H:St B led s) (hm:(r,OS.pred fun o=>∃ t u v,o={ cls:=.type "range",dict:=none,data:=.fields #[.int a t,.int b u,.int 1 v],slots:=#[] })∈led)
  (h1:-(2 ^ 60)<a) (h2:a<2 ^ 60) (h3:-(2 ^ 60)<b) (h4:b<2 ^ 60) (h:∀ ia s',St B ((ia,(itrRange B a 1 (b-a).toNat).at_ 0)::led) s'→Q (.ref ia) s'):
  wpAny (model B.prog B.w) A (pyIter (.ref r)) Q E s:=by
 obtain ⟨o,ho,t,u,v,rfl⟩:=H.get hm
 have e:Builtin.Range.rangeSize a b 1=((b-a).toNat:Int):=by rw [rangeSize_one]; split <;> lia
 refine wpAny_pyIter_range ho ?_ (h _ _ (H.push _ ?_))
 ·unfold Builtin.Range.small
  rw [e]
  simp [Builtin.Range.rangeFitsLong]
  omega
 ·show _=_
  rw [e]
  simp
theorem it_rangeD {r:Addr} {a b:Int} {Q:Value→Shared→Prop} (H:St B led s) (hm:(r,OS.pred fun o=>∃ t u v,o={ cls:=.type "range",dict:=none,data:=.fields #[.int a t,.int b u,.int (-1) v],slots:=#[] })∈led)
  (h1:-(2 ^ 60)<a) (h2:a<2 ^ 60) (h3:-(2 ^ 60)<b) (h4:b<2 ^ 60) (h:∀ ia s',St B ((ia,(itrRange B a (-1) (a-b).toNat).at_ 0)::led) s'→Q (.ref ia) s'):
  wpAny (model B.prog B.w) A (pyIter (.ref r)) Q E s:=by
 obtain ⟨o,ho,t,u,v,rfl⟩:=H.get hm
 have e:Builtin.Range.rangeSize a b (-1)=((a-b).toNat:Int):=by
  unfold Builtin.Range.rangeSize
  rw [if_neg (by decide)]
  split
  ·simp; lia
  ·lia
 refine wpAny_pyIter_range ho ?_ (h _ _ (H.push _ ?_))
 ·unfold Builtin.Range.small
  rw [e]
  simp [Builtin.Range.rangeFitsLong]
  omega
 ·show _=_
  rw [e]
  simp
theorem oks_replicate {v:VS} {x:Value} (h:v.ok (some x)):∀ n,oks (List.replicate n v) (List.replicate n x)
 | 0=>trivial
 | n+1=>⟨h,oks_replicate h n⟩
theorem foldl_one (x:Value):∀ n (acc:Array Value),(List.foldl (fun x1 x2=>x1++x2) acc (List.replicate n #[x])).toList=acc.toList++List.replicate n x
 | 0,acc=>by simp
 | n+1,acc=>by
  rw [List.replicate_succ,List.foldl_cons,foldl_one x n]
  simp [List.replicate_succ]
theorem l_mul1 {l:Addr} {v:VS} {k:Int} {u:Tok} {Q:Value→Shared→Prop} (H:St B led s) (hm:(l,OS.lst [v])∈led) (h0:0≤k) (hk:k≤1000000)
  (h:∀ r s',St B ((r,.lst (List.replicate k.toNat v))::led) s'→Q (.ref r) s'):wpAny (model B.prog B.w) A (binaryOp .Mult (.ref l) (.int k u)) Q E s:=by
 obtain ⟨xs,n,hx,hok⟩:=H.isL hm
 have hl:=oks_length hok
 obtain ⟨x,e⟩:∃ x,xs=#[x]:=by
  obtain ⟨a,e⟩:=len1 hl
  exact ⟨a,Array.toList_inj.mp e⟩
 subst e
 refine wpAny_binaryOp_repeat_ref (T := "list") (U := "int") (by decide) ⟨_,hx,rfl⟩ (fun s'=>typeIs_int s' k u) noFill_list_mul F.fills_int_mul F.slot_int_rmul repeat_list F.slot_int_index.lookup
  (call_meets F.slot_int_rmul (typeIs_int s k u) F.entry_int_rmul (F.args_int_rmul_2 _ _) (int___rmul___int_list k u l #[x] n)
   ⟨hx,rfl,⟨_,hx,rfl⟩,call_meets F.slot_list_mul ⟨_,hx,rfl⟩ F.entry_list_mul (F.args_list_mul_2 _ _)
    (AutoListH.list___mul___list_int_3 l #[x] n k u (by simp [Builtin.List.listFitsIndex]; exact ⟨far [] [_] (.d (.z (-9223372036854775808)) Y0) [.d (.z 0) Y0] [1,1] (fm h0 fz) rfl,far [] [_] (.e Y0 (.z 9223372036854775808)) [.d Y0 (.z 1000000)] [1,1] (fm hk fz) rfl⟩) (by simp; exact far [] [_] (.d Y0 (.z 1152921504606846975)) [.d Y0 (.z 1000000)] [1,1] (fm hk fz) rfl) (by simp [Builtin.List.listTooLong,sizeLine]; exact far [] [_] (.d Y0 (.z 16777216)) [.d Y0 (.z 1000000)] [1,1] (fm hk fz) rfl))
    ⟨hx,h _ _ (H.push _ ⟨_,_,rfl,?_⟩)⟩⟩)
 rw [if_neg (by simp),foldl_one]
 exact oks_replicate hok.1 _
theorem l_add {l b:Addr} {vs ws:List VS} {Q:Value→Shared→Prop} (H:St B led s) (hm:(l,OS.lst vs)∈led) (hb:(b,OS.lst ws)∈led) (hz:vs.length+ws.length≤1000000)
  (h:∀ r s',St B ((r,.lst (vs++ws))::led) s'→Q (.ref r) s'):wpAny (model B.prog B.w) A (binaryOp .Add (.ref l) (.ref b)) Q E s:=by
 obtain ⟨xs,n,hx,hok⟩:=H.isL hm
 obtain ⟨ys,n2,hy,hok2⟩:=H.isL hb
 have e1:xs.size=vs.length:=by rw [← Array.length_toList]; exact oks_length hok
 have e2:ys.size=ws.length:=by rw [← Array.length_toList]; exact oks_length hok2
 refine P.add_list hx hy (h _ _ (H.push _ ⟨_,_,rfl,?_⟩)) (by rw [e1,e2,sizeLine_eq]; exact nA hz rfl)
 rw [Array.toList_append]
 exact oks_append hok hok2
theorem l_add_ints {l b:Addr} {ns ms:List Int} {Q:Value→Shared→Prop} (H:St B led s) (hm:(l,ilst ns)∈led) (hb:(b,ilst ms)∈led) (hz:ns.length+ms.length≤1000000)
  (h:∀ r s',St B ((r,ilst (ns++ms))::led) s'→Q (.ref r) s'):wpAny (model B.prog B.w) A (binaryOp .Add (.ref l) (.ref b)) Q E s:=
 l_add H hm hb (by simpa using hz) (by unfold ilst at h; simpa only [List.map_append] using h)
theorem l_eq_ints {l b:Addr} {ns ms:List Int} {Q:Value→Shared→Prop} (H:St B led s) (hm:(l,ilst ns)∈led) (hb:(b,ilst ms)∈led) (hu:A.units+64<cLine)
  (h:Q (.bool (decide (ns=ms))) s):wpAny (model B.prog B.w) A (compareOp .Eq (.ref l) (.ref b)) Q E s:=by
 obtain ⟨xs,n,hx,hok⟩:=H.isL hm
 obtain ⟨ys,n2,hy,hok2⟩:=H.isL hb
 exact eq_intsK (vs:=xs.toList) (us:=ys.toList) (isList_of hx) (oks_ints hok) (isList_of hy) (oks_ints hok2) hu h
theorem l_ne_ints {l b:Addr} {ns ms:List Int} {Q:Value→Shared→Prop} (H:St B led s) (hm:(l,ilst ns)∈led) (hb:(b,ilst ms)∈led) (hu:A.units+64<cLine)
  (h:Q (.bool (!decide (ns=ms))) s):wpAny (model B.prog B.w) A (compareOp .NotEq (.ref l) (.ref b)) Q E s:=by
 obtain ⟨xs,n,hx,hok⟩:=H.isL hm
 obtain ⟨ys,n2,hy,hok2⟩:=H.isL hb
 exact ne_intsK (vs:=xs.toList) (us:=ys.toList) (isList_of hx) (oks_ints hok) (isList_of hy) (oks_ints hok2) hu h
end
end Mine
namespace Mine
open PySem PySem.W PyProof.Rows PySem.Spec PySem.Calls
section
variable {B:Bs} {A:Around} {led led':Led} {s:Shared} {E:Value→Shared→Prop} {env:Env}
theorem l_copy {l:Addr} {vs:List VS} {Q:Value→Shared→Prop} (H:St B led s) (hm:(l,OS.lst vs)∈led) (hz:vs.length≤1000000) (h:∀ r s',St B ((r,.lst vs)::led) s'→Q (.ref r) s'):
  wpAny (model B.prog B.w) A (call (.type "list") [.ref l]) Q E s:=by
 obtain ⟨xs,n,hx,hok⟩:=H.isL hm
 refine call_list_seq l (.inl rfl) hx rfl rfl (fun h' c' hk hg=>h _ _ ?_) (by rw [sizeLine_eq,← Array.length_toList,oks_length hok]; exact nA hz rfl)
 have H':=H.grow (t:=s.toks) (o:=.lst vs) hk (size_none _) rfl hg ⟨xs,c',rfl,hok⟩
 exact H'
theorem l_copy_ints {l:Addr} {ns:List Int} {Q:Value→Shared→Prop} (H:St B led s) (hm:(l,ilst ns)∈led) (hz:ns.length≤1000000) (h:∀ r s',St B ((r,ilst ns)::led) s'→Q (.ref r) s'):
  wpAny (model B.prog B.w) A (call (.type "list") [.ref l]) Q E s:=l_copy H hm (by simpa using hz) h
theorem l_pop_raw {l:Addr} {items:Array Value} {n k:Nat} {i:Int} {u:Tok} {y:Value} {Q:Value→Shared→Prop} (hl:IsL s.heap l items n) (hf:Builtin.List.listFitsIndex i=true) (hk:seqIndex? i items.size=some k) (hy:items[k]?=some y) (hz:items.size≤sizeLine)
  (h:Q y { s with heap:=s.heap.update l (Obj.mapSeq fun xs=>xs.eraseIdxIfInBounds k) }):wpAny (model B.prog B.w) A (call (.builtin "list.pop") [.ref l,.int i u]) Q E s:=
 call_meets PySem.F.slot_list_pop ⟨_,hl,rfl⟩ PySem.F.entry_list_pop (PySem.F.args_list_pop_2 _ _) (PySem.MeetsSeq.list_pop_at l items n i u k y hf hk hy hz) ⟨hl,h⟩
theorem l_pop_at {l:Addr} {vs:List VS} {k:Nat} {u:Tok} {v:VS} {Q:Value→Shared→Prop} (H:St B led s) (U:Up l (.lst vs) (.lst (vs.eraseIdx k)) led led') (hz:vs.length≤1000000) (hv:vs[k]?=some v)
  (h:∀ s',St B led' s'→v.all fun x=>Q x s'):wpAny (model B.prog B.w) A (call (.builtin "list.pop") [.ref l,.int k u]) Q E s:=by
 obtain ⟨xs,n,hx,hok⟩:=H.isL U.mem
 have e:xs.size=vs.length:=by rw [← Array.length_toList]; exact oks_length hok
 have hk:k<vs.length:=(List.getElem?_eq_some_iff.mp hv).1
 obtain ⟨x,hx',ok⟩:=oks_get _ hok hv
 have H':St B led' { s with heap:=s.heap.update l (Obj.mapSeq fun xs=>xs.eraseIdxIfInBounds k),toks:=s.toks }:=by
  refine H.change U (Heap.SameBut.update ..).extBut (hx.update _) ⟨_,_,rfl,?_⟩
  have e3:(xs.eraseIdxIfInBounds k).toList=xs.toList.eraseIdx k:=by
   rw [Array.eraseIdxIfInBounds_eq,dif_pos (by lia),Array.toList_eraseIdx]
  rw [e3]
  exact oks_erase _ hok
 obtain ⟨x',e',hq⟩:=VS.all_of (h _ H') ok
 cases e'
 have f2:seqIndex? (k:Int) xs.size=some k:=by
  have:=seqIndex_of (k:=(k:Int)) (n:=xs.size) (by exact Int.natCast_nonneg _) (by exact far [_,_,_] [] (.e X0 X1) [.c Z1 Z2,.b Z0 Z2] [1,-1,1] (fm e (fm hk fz)) rfl)
  simpa using this
 exact l_pop_raw hx (fitsIndex_of (by exact Int.natCast_nonneg _) (by lia)) f2 (by rw [← Array.getElem?_toList]; exact hx') (by rw [e,sizeLine_eq]; exact nA hz rfl) hq
theorem l_sum {l:Addr} {ns:List Int} {Q:Value→Shared→Prop} (H:St B led s) (hh:A.handled=none) (hm:(l,ilst ns)∈led) (h:∀ t s',St B led s'→Q (.int ns.sum t) s'):
  wpAny (model B.prog B.w) A (call (.builtin "sum") [.ref l]) Q E s:=by
 obtain ⟨xs,n,hx,hok⟩:=H.isL hm
 have hi:=oks_ints hok
 obtain ⟨zs,e⟩:=hi.allInts.items
 have e':xs=intItems zs:=by rw [← e]
 subst e'
 refine sum_intListG hh (isList_of hx) fun h' tk t' hk=>?_
 have e2:preSum (numAt zs) zs.size=ns.sum:=by
  rw [preSum_eq,List.take_of_length_le (by simp),← nums_intItems,hi.numsOf]
 rw [e2]
 exact h _ _ (H.grow0 hk)
theorem l_max {l:Addr} {ns:List Int} {Q:Value→Shared→Prop} (H:St B led s) (hh:A.handled=none) (hm:(l,ilst ns)∈led) (hne:0<ns.length) (h:∀ M t s',St B led s'→M∈ns→(∀ a∈ns,a≤M)→Q (.int M t) s'):
  wpAny (model B.prog B.w) A (call (.builtin "max") [.ref l]) Q E s:=by
 obtain ⟨xs,n,hx,hok⟩:=H.isL hm
 have hi:=oks_ints hok
 obtain ⟨zs,e⟩:=hi.allInts.items
 have e':xs=intItems zs:=by rw [← e]
 subst e'
 have hns:ns=zs.toList.map (·.1):=by rw [← hi.numsOf,← nums_intItems]
 have hsz:0<zs.size:=by have h3:=hne; rw [hns,List.length_map,Array.length_toList] at h3; exact h3
 refine max_intList hh (isList_of hx) hsz fun v h' tk hv hk=>?_
 obtain ⟨t,rfl⟩:=intItems_at hv
 obtain ⟨h1,h2⟩:=argBest_gt (numAt zs) (zs.size-1)
 refine h _ t _ (H.grow0 hk) ?_ fun a ha=>?_
 ·rw [hns,numAt_eq]
  have hlt:argBest (fun i j=>decide (numAt zs i>numAt zs j)) (zs.size-1)<(zs.toList.map (·.1)).length:=by rw [List.length_map,Array.length_toList]; exact far [_,_,_] [] (.b Z0 Z1) [.a Z0 Z2,.c (.p Z2 (.n 1)) Z1] [1,1,1] (fm h1 (fm (ns2 (far [_] [] (.a (.n 1) Z0) [.b (.n 0) Z0] [1,1] (fm hsz fz) rfl)) fz)) rfl
  rw [List.getD_eq_getElem?_getD,List.getElem?_eq_getElem hlt]
  exact List.getElem_mem hlt
 ·rw [hns] at ha
  obtain ⟨j,hj,rfl⟩:=mem_getD ha
  rw [List.length_map,Array.length_toList] at hj
  rw [← numAt_eq]; exact h2 j (by exact far [_,_,_] [] (.a Z0 Z1) [.b Z0 Z2,.a Z2 (.p Z1 (.n 1))] [1,1,1] (fm hj (fm (ns1 _ _) fz)) rfl)
theorem sl_upto (items:Array Value) (b:Int) (hb:0≤b):slicePick items none (some b) none=(items.toList.take b.toNat).toArray:=by
 have e:sliceBounds none (some b) none items.size=(((0:Nat):Int),((min b.toNat items.size:Nat):Int),1):=by
  unfold sliceBounds
  simp
  lia
 rw [kmk_pick_nat items e]
 simp [List.take_eq_take_iff]
noncomputable def itrRev (B:Bs) (l:Addr) (vs:List VS):Itr B where
 n:=vs.length
 at_:=fun i=>.rcd "list_reverseiterator" #[.ref l,rawInt ((vs.length:Int)-1-i)]
 item:=fun i=>vs[vs.length-1-i]?.getD .any
 serves:=fun led=>(l,.lst vs)∈led
 next:=by
  intro A ia i led s Q E hh H hs hi h
  obtain ⟨xs,n,hx,hok⟩:=H.isL (.tail _ hs)
  obtain ⟨o,ho,hc,hd⟩:=H.get (.head _)
  have hv:vs[vs.length-1-i]?=some vs[vs.length-1-i]:=by rw [List.getElem?_eq_getElem (by omega)]
  obtain ⟨x,e,ok⟩:=oks_get _ hok hv
  have ei:(vs.length:Int)-1-(i:Nat)=((vs.length-1-i:Nat):Int):=by omega
  rw [ei] at hd
  refine wpAny_pyNext_rev_item (i:=vs.length-1-i) ⟨o,ho,hc,hd⟩ (isList_of hx) (by rw [← Array.getElem?_toList]; exact e) fun h' ⟨o',ho',hc',hd'⟩ hsb=>?_
  have e2:((vs.length-1-i:Nat):Int)-1=(vs.length:Int)-1-((i+1:Nat):Int):=by exact Int.le_antisymm (far [_,_,_] [] (.d (.s X0 (.z 1)) (.s (.s X1 (.z 1)) (.t (.p Z2 (.n 1))))) [.f (.s (.s X1 (.z 1)) X2) X0] [1,-1] (fm ei fz) rfl) (far [_,_,_] [] (.d (.s (.s X0 (.z 1)) (.t (.p Z1 (.n 1)))) (.s X2 (.z 1))) [.f (.s (.s X0 (.z 1)) X1) X2] [1,1] (fm ei fz) rfl)
  rw [e2] at hd'
  have q:=h _ (H.change (t:=s.toks) .head hsb.extBut ho' ⟨hc',hd'⟩)
  simp only [hv,Option.getD_some] at q
  obtain ⟨u,hu,q⟩:=VS.all_of q ok
  cases hu
  exact q
 stop:=by
  intro A ia i led s Q E hh H hs hi h
  obtain ⟨o,ho,hc,hd⟩:=H.get (.head _)
  subst hi
  have e:(vs.length:Int)-1-(vs.length:Nat)=-1:=by lia
  rw [e] at hd
  exact wpAny_pyNext_rev_end hh ⟨o,ho,hc,hd⟩ fun h' hx'=>h _ (H.lose hx')
theorem it_rev {l:Addr} {vs:List VS} {Q:Value→Shared→Prop} (H:St B led s) (hm:(l,OS.lst vs)∈led) (h:∀ ia s',St B ((ia,(itrRev B l vs).at_ 0)::led) s'→Q (.ref ia) s'):wpAny (model B.prog B.w) A (call (.type "reversed") [.ref l]) Q E s:=by
 obtain ⟨xs,n,hx,hok⟩:=H.isL hm
 have e:xs.size=vs.length:=by rw [← Array.length_toList]; exact oks_length hok
 refine call_reversed_list (isList_of hx) (h _ _ (H.push _ ⟨rfl,?_⟩))
 show Data.fields _=_
 rw [e]; simp
theorem it_rev2 {l ia:Addr} {vs:List VS} {Q:Value→Shared→Prop} (H:St B ((ia,(itrRev B l vs).at_ 0)::led) s) (h:Q (.ref ia) s):wpAny (model B.prog B.w) A (pyIter (.ref ia)) Q E s:=by
 obtain ⟨o,ho,hc,hd⟩:=H.get (.head _)
 exact wpAny_pyIter_revIter ⟨o,ho,hc,hd⟩ h
end
end Mine
namespace Mine
open PySem PySem.W PyProof.Rows PySem.Spec PySem.Calls
noncomputable def IsIDic (B:Bs) (kvs:List (Int×Value)) (o:Obj):Prop:=
 o.ExactDict∧∃ es ep,o.data=.dict es ep∧KeysOf (intKind B.prog B.w) es∧Pairs (intKind B.prog B.w) es.toList kvs∧(kvs.map (·.1)).Nodup
noncomputable def idic (B:Bs) (kvs:List (Int×Value)):OS:=.pred (IsIDic B kvs)
noncomputable abbrev tk2 (B:Bs):=tupleKind (intKind B.prog B.w)
noncomputable def IsTDic (B:Bs) (xs:List (List Int×Addr×Value)) (o:Obj):Prop:=
 o.ExactDict∧∃ es ep,o.data=.dict es ep∧es.toList=xs.map (entryOfKey (tk2 B))∧(xs.map (·.1)).Nodup
noncomputable def tdic (B:Bs) (xs:List (List Int×Addr×Value)):OS:=.pred (IsTDic B xs)
section
variable {B:Bs} {A:Around} {led led':Led} {s:Shared} {E:Value→Shared→Prop} {env:Env} {d:Addr} {kvs:List (Int×Value)} {k:Int} {t:Tok}
theorem St.isI (H:St B led s) (hm:(d,idic B kvs)∈led):s.heap.DictOf (intKind B.prog B.w) d kvs:=by
 obtain ⟨o,ho,h1,es,ep,h2,h3,h4,h5⟩:=H.get hm
 exact ⟨o,es,ep,ho,h1,h2,h3,h4,h5⟩
theorem St.isI_set (H:St B led s) {kvs':List (Int×Value)} (U:Up d (idic B kvs) (idic B kvs') led led') {h':Heap} {tk:Nat} (hs:Heap.SameBut d s.heap h') (hd:h'.DictOf (intKind B.prog B.w) d kvs'):
  St B led' { s with heap:=h',toks:=tk }:=by
 obtain ⟨o,es,ep,ho,h1,h2,h3,h4,h5⟩:=hd
 exact H.change U hs.extBut ho ⟨h1,es,ep,h2,h3,h4,h5⟩
theorem d_new {pos:Pos} {Q:Value→Shared→Prop} (H:St B led s) (h:∀ d s',St B ((d,idic B [])::led) s'→Q (.ref d) s'):wpAny (model B.prog B.w) A (eval (.Dict [] [] pos) env) Q E s:=
 wpAny_Dict_empty (h _ _ (H.push (t:=s.toks) _ ⟨⟨rfl,rfl,rfl⟩,#[],0,rfl,fun _ he=>by simp at he,.nil,List.nodup_nil⟩))
theorem isI (k:Int) (t:Tok):(intKind B.prog B.w).is k (.int k t)=true:=by show Value.isInt k (.int k t)=true; simp [Value.isInt]
theorem d_set {v:Value} {Q:Unit→Shared→Prop} (H:St B led s) (U:Up d (idic B kvs) (idic B (stored kvs k v)) led led') (hz:kvs.length≤1000000) (h:∀ s',St B led' s'→Q () s'):
  wpAny (model B.prog B.w) A (setItem (.ref d) (.int k t) v) Q E s:=
 wpAny_setItem_pairs (isI k t) (H.isI U.mem) (fun h' hd hs=>h _ (H.isI_set U hs hd)) (by rw [sizeLine_eq]; exact nA hz rfl)
theorem valueAt_eq (hn:(kvs.map (·.1)).Nodup) {v:Value} (hm:(k,v)∈kvs):valueAt kvs k=some v:=by
 induction kvs with
 | nil=>cases hm
 | cons p r ih=>
  simp only [List.map_cons,List.nodup_cons] at hn
  unfold valueAt
  rcases List.mem_cons.mp hm with rfl | hm
  ·simp
  ·have hne:¬ p.1=k:=fun e=>hn.1 (e ▸ List.mem_map_of_mem (f:=(·.1)) hm)
   rw [List.find?_cons_of_neg (by simpa using hne)]
   exact ih hn.2 hm
theorem valueAt_none (hm:k ∉ kvs.map (·.1)):valueAt kvs k=none:=by
 unfold valueAt
 rw [List.find?_eq_none.mpr]; rfl
 intro x hx e
 exact hm (by rw [← of_decide_eq_true e]; exact List.mem_map_of_mem hx)
theorem stored_new {v:Value} (hm:k ∉ kvs.map (·.1)):stored kvs k v=kvs++[(k,v)]:=by
 unfold stored
 rw [if_neg]
 intro e
 obtain ⟨x,hx,q⟩:=List.any_eq_true.mp e
 exact hm (by rw [← of_decide_eq_true q]; exact List.mem_map_of_mem hx)
theorem d_get {v:Value} {Q:Value→Shared→Prop} (H:St B led s) (hm:(d,idic B kvs)∈led) (hv:valueAt kvs k=some v) (h:∀ s',St B led s'→Q v s'):
  wpAny (model B.prog B.w) A (getItem (.ref d) (.int k t)) Q E s:=
 wpAny_getItem_of (isI k t) (H.isI hm).mapOf hv (h _ H.toks)
theorem d_get2 {dflt:Value} {Q:Value→Shared→Prop} (H:St B led s) (hm:(d,idic B kvs)∈led) (h:∀ s',St B led s'→Q ((valueAt kvs k).getD dflt) s'):
  wpAny (model B.prog B.w) A (call (.builtin "dict.get") [.ref d,.int k t,dflt]) Q E s:=
 call_meetsIn PySem.F.slot_dict_get (H.isI hm).typeIs PySem.F.entry_dict_get (PySem.F.args_dict_get_3 _ _ _) (meets_dict_get_default (intKind B.prog B.w) d (isI k t) (H.notMods hm) dflt) ⟨_,(H.isI hm).mapOf,h _ H.toks⟩
theorem d_meth_get {pl:Sem Bool} {Q:Value×List Value→Shared→Prop} (H:St B led s) (hm:(d,idic B kvs)∈led) (h:Q (.builtin "dict.get",[.ref d]) s):
  wpAny (model B.prog B.w) A (getMethod (.ref d) "get" pl) Q E s:=
 getMethod_builtin (H.isI hm).typeIs PySem.F.plainAttrs_dict PySem.F.slot_dict_get PySem.F.type_dict_get (H.isI hm).mapOf.noDict h
theorem d_meth_setdef {pl:Sem Bool} {Q:Value×List Value→Shared→Prop} (H:St B led s) (hm:(d,idic B kvs)∈led) (h:Q (.builtin "dict.setdefault",[.ref d]) s):
  wpAny (model B.prog B.w) A (getMethod (.ref d) "setdefault" pl) Q E s:=
 getMethod_builtin (H.isI hm).typeIs PySem.F.plainAttrs_dict PySem.F.slot_dict_setdefault PySem.F.type_dict_setdefault (H.isI hm).mapOf.noDict h
theorem d_meth_items {pl:Sem Bool} {Q:Value×List Value→Shared→Prop} (H:St B led s) (hm:(d,idic B kvs)∈led) (h:Q (.builtin "dict.items",[.ref d]) s):
  wpAny (model B.prog B.w) A (getMethod (.ref d) "items" pl) Q E s:=
 getMethod_builtin (H.isI hm).typeIs PySem.F.plainAttrs_dict PySem.F.slot_dict_items PySem.F.type_dict_items (H.isI hm).mapOf.noDict h
noncomputable def idicE (B:Bs) (kvs:List (Int×Value)) (ep:Nat):OS:=.pred fun o=>o.ExactDict∧∃ es,o.data=.dict es ep∧KeysOf (intKind B.prog B.w) es∧Pairs (intKind B.prog B.w) es.toList kvs∧(kvs.map (·.1)).Nodup
noncomputable def dview (d:Addr):OS:=.pred fun o=>o.cls=.type "dict_items" ∧ o.data=.fields #[.ref d]
noncomputable def ditr (d:Addr) (n ep i:Nat):OS:=.pred fun o=>∃ ok ov,o={ cls:=.type "dict_itemiterator",dict:=none,data:=.fields #[.none,.bool false,.ref d,.int i 0,.int n 0,.int ep 0,ok,ov],slots:=#[] }
theorem St.isIE (H:St B led s) {ep:Nat} (hm:(d,idicE B kvs ep)∈led):s.heap.DictAt (intKind B.prog B.w) d kvs ep:=by
 obtain ⟨o,ho,h1,es,h2,h3,h4,h5⟩:=H.get hm
 exact ⟨o,es,ho,h1,h2,h3,h4,h5⟩
theorem St.recast (H:St B led s) {a:Addr} {o o':OS} (u:Up a o o' led led') (h:∀ ob,s.heap.get? a=some ob→o'.ok ob):St B led' s:=by
 obtain ⟨ob,ho,_⟩:=H.get u.mem
 exact H.change (t:=s.toks) u (fun b x _ e=>e) ho (h ob ho)
theorem St.toE (H:St B led s) (hm:(d,idic B kvs)∈led):∃ ep,∀ led',Up d (idic B kvs) (idicE B kvs ep) led led'→St B led' s:=by
 obtain ⟨o,ho,h1,es,ep,h2,h3,h4,h5⟩:=H.get hm
 refine ⟨ep,fun led' u=>H.recast u fun ob hob=>?_⟩
 rw [ho] at hob
 cases hob
 exact ⟨h1,es,h2,h3,h4,h5⟩
theorem St.add (H:St B led s) {a:Addr} {o:OS} {ob:Obj} (hn:∀ p∈led,p.1≠a) (hb:B.base.get? a=none) (hi:400<a) (ho:s.heap.get? a=some ob) (ok:o.ok ob):St B ((a,o)::led) s:=by
 refine ⟨H.keep,fun p hp=>?_,fun p hp=>?_,?_,H.gens,H.os,fun p hp=>?_⟩
 ·rcases List.mem_cons.mp hp with rfl | hp
  ·exact ⟨ob,ho,ok⟩
  ·exact H.has p hp
 ·rcases List.mem_cons.mp hp with rfl | hp
  ·exact hb
  ·exact H.fresh p hp
 ·simp only [List.map_cons,List.nodup_cons]
  refine ⟨fun hm=>?_,H.nodup⟩
  obtain ⟨p,hp,e⟩:=List.mem_map.mp hm
  exact hn p hp e
 ·rcases List.mem_cons.mp hp with rfl | hp
  ·exact hi
  ·exact H.high p hp
theorem d_items {Q:Value→Shared→Prop} (H:St B led s) (hm:(d,idic B kvs)∈led) (h:∀ v s',St B ((v,dview d)::led) s'→Q (.ref v) s'):
  wpAny (model B.prog B.w) A (call (.builtin "dict.items") [.ref d]) Q E s:=
 call_meetsIn PySem.F.slot_dict_items (H.isI hm).typeIs PySem.F.entry_dict_items (PySem.F.args_dict_items_1 _) (meets_dict_items (intKind B.prog B.w) d (H.notMods hm)) ⟨⟨kvs,H.isI hm⟩,h _ _ (H.push (t:=s.toks) _ ⟨rfl,rfl⟩)⟩
theorem it_items {v:Addr} {ep:Nat} {Q:Value→Shared→Prop} (H:St B led s) (hv:(v,dview d)∈led) (hm:(d,idicE B kvs ep)∈led) (h:∀ ia s',St B ((ia,ditr d kvs.length ep 0)::led) s'→Q (.ref ia) s'):
  wpAny (model B.prog B.w) A (pyIter (.ref v)) Q E s:=by
 obtain ⟨o,ho,h1,h2⟩:=H.get hv
 exact wpAny_pyIter_items ⟨o,ho,h1,h2⟩ (H.isIE hm) (h _ _ (H.push (t:=s.toks) _ ⟨_,_,rfl⟩))
theorem for_items {e1 e2:Expr} {c} {tp:Pos} {body:List Stmt} {Q:Flow→Shared→Prop} {ep:Nat} (hE:EGood B A env E) (hh:A.handled=none) {ia:Addr} {led₀:Led}
  (H:St B ((ia,ditr d kvs.length ep 0)::led₀) s) (J:Nat→Led→Prop) (h0:J 0 led₀) (hs:∀ i led,J i led→(d,idicE B kvs ep)∈led)
  (turn:∀ i led s k v a,kvs[i]?=some (k,v)→J i led→St B ((a,.tup [.int k,.is v])::(ia,ditr d kvs.length ep (i+1))::led) s→wpAny (model B.prog B.w) A (assign (.Tuple [e1,e2] c tp) env (.ref a)) (fun _ s₂=>
   wpAny (model B.prog B.w) A (execs body env) (fun f s₃=>match f with
    | .next=>∃ led',J (i+1) led'∧St B ((ia,ditr d kvs.length ep (i+1))::led') s₃
    | .cont=>∃ led',J (i+1) led'∧St B ((ia,ditr d kvs.length ep (i+1))::led') s₃
    | .brk=>Q .next s₃
    | .ret v=>Q (.ret v) s₃) E s₂) E s)
  (done:∀ led s,J kvs.length led→St B led s→Q .next s):
  codeAny (model B.prog B.w) A (.forLoop (.Tuple [e1,e2] c tp) (.ref ia) body [] env) (fun r s'=>match r with | .ok f=>Q f s' | .error e=>cameBackBy (model B.prog B.w) A env E e s') s:=by
 refine codeAny_forLoop_any (fun k s=>∃ i led,i≤kvs.length∧k=kvs.length-i∧J i led∧St B ((ia,ditr d kvs.length ep i)::led) s) ?_ (kvs.length-0) ⟨0,led₀,Nat.zero_le _,rfl,h0,H⟩
 rintro k s ⟨i,led,hi,rfl,hJ,H⟩
 obtain ⟨o,ho,ok,ov,rfl⟩:=H.get (.head _)
 have hD:=H.isIE (.tail _ (hs i led hJ))
 rcases Nat.lt_or_ge i kvs.length with hlt | hge
 ·obtain ⟨⟨kk,vv⟩,hx⟩:∃ p,kvs[i]?=some p:=⟨_,List.getElem?_eq_getElem hlt⟩
  refine wpAny_pyNext_items_item ho hD hx fun key h' hk hout htup hsz hkeep=>?_
  have hne:∀ p∈(ia,ditr d kvs.length ep i)::led,p.1≠s.heap.objs.size:=fun p hp e=>by
   obtain ⟨x,hx,_⟩:=H.has p hp
   rw [e,size_none] at hx; cases hx
  have hbase:B.base.get? s.heap.objs.size=none:=by
   cases q:B.base.get? s.heap.objs.size with
   | none=>rfl
   | some x=>have:=H.keep _ _ q; rw [size_none] at this; cases this
  have hne1:ia≠s.heap.objs.size:=hne _ (.head _)
  refine wpAny_letOwnedTupleGo_items hout fun h'' hin hs2=>?_
  have H1:St B ((ia,ditr d kvs.length ep (i+1))::led) { s with heap:=h'',toks:=s.toks }:=
   H.change .head (fun b x hb hx=>hs2.extBut b x hb (hkeep b x hb hx)) hin ⟨_,_,rfl⟩
  obtain ⟨tk,rfl⟩:=Value.isInt_shape (show Value.isInt kk key=true from hk)
  have H2:St B ((s.heap.objs.size,.tup [.int kk,.is vv])::(ia,ditr d kvs.length ep (i+1))::led) { s with heap:=h'',toks:=s.toks }:=
   H1.add (fun p hp=>by
    rcases List.mem_cons.mp hp with rfl | hp
    ·exact hne1
    ·exact hne p (.tail _ hp)) hbase H.size_big (hs2.extBut _ _ (Ne.symm hne1) htup) ⟨_,_,rfl,⟨_,rfl⟩,rfl,trivial⟩
  have fin:∀ s₃,(∃ led',J (i+1) led'∧St B ((ia,ditr d kvs.length ep (i+1))::led') s₃)→∃ m,m<kvs.length-i∧∃ i led,i≤kvs.length∧m=kvs.length-i∧J i led∧St B ((ia,ditr d kvs.length ep i)::led) s₃:=
   fun s₃ ⟨led',a,b⟩=>⟨kvs.length-(i+1),by exact far [_,_,_,_] [] (.b Z0 Z1) [.a Z2 (.p Z1 Z3),.c (.p Z0 (.p Z3 (.n 1))) Z2] [1,1,1] (fm (ns1 _ _) (fm (ns2 (far [_,_] [] (.a (.p Z0 (.n 1)) Z1) [.b Z0 Z1] [1,1] (fm hlt fz) rfl)) fz)) rfl,i+1,led',hlt,rfl,a,b⟩
  refine wpAny_mono (turn i led _ kk vv _ hx hJ H2) (fun _ s₂ q₂=>wpAny_mono q₂ (fun f s₃ z=>?_) fun v s' q=>hE v s' q) fun v s' q=>hE v s' q
  cases f with
  | next=>exact fin _ z
  | cont=>exact fin _ z
  | brk=>exact z
  | ret v=>exact z
 ·obtain rfl:i=kvs.length:=Nat.le_antisymm hi hge
  refine wpAny_pyNext_items_end hh ho hD (by simp) fun h' hx'=>?_
  exact wpAny_execs_nil (done led _ hJ (H.lose (t:=s.toks) hx'))
theorem St.tupKey (H:St B led s) {a:Addr} {x y:Int} (hm:(a,OS.tup [.int x,.int y])∈led):(tk2 B).is s.heap [x,y] a:=by
 obtain ⟨xs,n,hx,hok⟩:=H.isT hm
 refine ⟨_,xs,n,hx,rfl,rfl,?_⟩
 have hl:=oks_length hok
 obtain ⟨t,u,e⟩:=oksII hok
 rw [e]
 exact .cons (Mine.isI _ _) (.cons (Mine.isI _ _) .nil)
noncomputable def TKeys (led:Led) (xs:List (List Int×Addr×Value)):Prop:=∀ p∈xs,∃ x y,p.1=[x,y]∧(p.2.1,OS.tup [.int x,.int y])∈led
theorem TKeys.mono {xs:List (List Int×Addr×Value)} (h:TKeys led xs) (k:∀ p∈led,p∈led'):TKeys led' xs:=fun p hp=>let ⟨x,y,e,m⟩:=h p hp; ⟨x,y,e,k _ m⟩
theorem St.isTD (H:St B led s) {xs:List (List Int×Addr×Value)} (hm:(d,tdic B xs)∈led) (hk:TKeys led xs):s.heap.DictOfH (tk2 B) d xs:=by
 obtain ⟨o,ho,h1,es,ep,h2,h3,h4⟩:=H.get hm
 refine ⟨o,es,ep,ho,h1,h2,h3,fun p hp=>?_,h4⟩
 obtain ⟨x,y,e,m⟩:=hk p hp
 rw [e]
 exact H.tupKey m
theorem td_new {pos:Pos} {Q:Value→Shared→Prop} (H:St B led s) (h:∀ d s',St B ((d,tdic B [])::led) s'→Q (.ref d) s'):wpAny (model B.prog B.w) A (eval (.Dict [] [] pos) env) Q E s:=
 wpAny_Dict_empty (h _ _ (H.push (t:=s.toks) _ ⟨⟨rfl,rfl,rfl⟩,#[],0,rfl,rfl,List.nodup_nil⟩))
theorem tdRoom {envs:List Env} {n:Nat} (R:Rm A envs n):(tk2 B).room A.in1:=by
 have:=R.units
 show A.units+1<9900
 exact far [_,_] [] (.b (.p Z0 (.n 1)) (.n 9900)) [.b (.p (.p Z0 (.m 40 Z1)) (.n 40)) (.n 9900)] [1,1] (fm this fz) rfl
theorem td_set {envs:List Env} {n:Nat} {xs:List (List Int×Addr×Value)} {a:Addr} {x y:Int} {v:Value} {Q:Unit→Shared→Prop} (R:Rm A envs n) (H:St B led s) (U:Up d (tdic B xs) (tdic B (storedH xs [x,y] a v)) led led') (hk:TKeys led xs) (ha:(a,OS.tup [.int x,.int y])∈led) (hz:xs.length≤1000000)
  (h:∀ s',St B led' s'→Q () s'):wpAny (model B.prog B.w) A (setItem (.ref d) (.ref a) v) Q E s:=by
 refine wpAny_setItem_heap (tdRoom R) (H.tupKey ha) (H.isTD U.mem hk) (fun h' hd hs=>h _ ?_) (by rw [sizeLine_eq]; exact nA hz rfl)
 obtain ⟨o,es,ep,ho,h1,h2,h3,h4,h5⟩:=hd
 exact H.change U hs.extBut ho ⟨h1,es,ep,h2,h3,h5⟩
theorem td_in {envs:List Env} {n:Nat} {xs:List (List Int×Addr×Value)} {a:Addr} {x y:Int} {Q:Value→Shared→Prop} (R:Rm A envs n) (H:St B led s) (hm:(d,tdic B xs)∈led) (hk:TKeys led xs) (ha:(a,OS.tup [.int x,.int y])∈led)
  (h:∀ s',St B led s'→Q (.bool (atKey xs [x,y]).isSome) s'):wpAny (model B.prog B.w) A (compareOp .In (.ref a) (.ref d)) Q E s:=
 wpAny_in_heap (tdRoom R) (H.tupKey ha) (H.notMods hm) (H.isTD hm hk) (h _ H.toks)
theorem td_get {envs:List Env} {n:Nat} {xs:List (List Int×Addr×Value)} {a:Addr} {x y:Int} {p:Addr×Value} {Q:Value→Shared→Prop} (R:Rm A envs n) (H:St B led s) (hm:(d,tdic B xs)∈led) (hk:TKeys led xs) (ha:(a,OS.tup [.int x,.int y])∈led)
  (hp:atKey xs [x,y]=some p) (h:∀ s',St B led s'→Q p.2 s'):wpAny (model B.prog B.w) A (getItem (.ref d) (.ref a)) Q E s:=
 wpAny_getItem_heap (tdRoom R) (H.tupKey ha) (H.isTD hm hk) hp (h _ H.toks)
end
end Mine
namespace Mine
open PySem PySem.W PyProof.Rows PySem.Spec PySem.Calls
noncomputable def KGood {α:Type} (lt:Nat→Nat→Bool) (n:Nat):KasT α→(α→Prop)→Prop
 | .ret a,Q=>Q a
 | .ask i j k,Q=>i<n∧j<n∧KGood lt n (k (lt i j)) Q
theorem kgood_bind {α β:Type} {lt:Nat→Nat→Bool} {n:Nat} {f:α→KasT β} {Q:β→Prop}:∀ (t:KasT α),KGood lt n t (fun a=>KGood lt n (f a) Q)→KGood lt n (t.bind f) Q
 | .ret _,h=>h
 | .ask i j k,⟨h1,h2,h3⟩=>⟨h1,h2,kgood_bind _ h3⟩
theorem kgood_mono {α:Type} {lt:Nat→Nat→Bool} {n:Nat} {Q Q':α→Prop} (hq:∀ a,Q a→Q' a):∀ (t:KasT α),KGood lt n t Q→KGood lt n t Q'
 | .ret _,h=>hq _ h
 | .ask i j k,⟨h1,h2,h3⟩=>⟨h1,h2,kgood_mono hq _ h3⟩
theorem kgood_wp {α:Type} {lt:Nat→Nat→Bool} {n:Nat} {cmp:Nat→Nat→(Bool→Shared→Prop)→Shared→Prop} {s:Shared} (hc:∀ i j C,i<n→j<n→C (lt i j) s→cmp i j C s) {Q:α→Prop} {R:α→Shared→Prop} (hr:∀ a,Q a→R a s):
  ∀ (t:KasT α),KGood lt n t Q→t.kasWp cmp R s
 | .ret _,h=>hr _ h
 | .ask i j k,⟨h1,h2,h3⟩=>hc _ _ _ h1 h2 (kgood_wp hc hr _ h3)
section
variable {lt:Nat→Nat→Bool} {n:Nat}
structure LtOk (lt:Nat→Nat→Bool) (n:Nat):Prop where
 tot:∀ i j,i<n→j<n→i≠j→lt i j=false→lt j i=true
 trans:∀ i j k,i<n→j<n→k<n→lt i j=true→lt j k=true→lt i k=true
 irr:∀ i j,i<n→j<n→lt i j=true→lt j i=false
noncomputable def Arr (p:Array Nat) (n:Nat):Prop:=p.toList.Perm (List.range n)
theorem Arr.size {p:Array Nat} (h:Arr p n):p.size=n:=by rw [← Array.length_toList,h.length_eq,List.length_range]
theorem Arr.bd {p:Array Nat} (h:Arr p n) {i:Nat} (hi:i<n):p.getD i 0<n:=by
 have hs:=h.size
 have hm:p[i]∈List.range n:=h.mem_iff.mp (by simp)
 simp only [Array.getD,hs,hi,dif_pos]
 exact List.mem_range.mp hm
theorem Arr.ne {p:Array Nat} (h:Arr p n) {i j:Nat} (hi:i<n) (hj:j<n) (hij:i≠j):p.getD i 0≠p.getD j 0:=by
 have hs:=h.size
 have hn:p.toList.Nodup:=h.symm.nodup List.nodup_range
 simp only [Array.getD,hs,hi,hj,dif_pos]
 intro e
 refine hij ((List.getElem_inj (xs:=p.toList) (h₀:=by simpa [hs] using hi) (h₁:=by simpa [hs] using hj) hn).mp ?_)
 simpa using e
theorem Arr.of_perm {p q:Array Nat} (h:Arr p n) (k:q.Perm p):Arr q n:=(Array.perm_iff_toList_perm.mp k).trans h
theorem getD_of {p q:Array Nat} {i j:Nat} (h:p[i]?=q[j]?):p.getD i 0=q.getD j 0:=by
 rw [Array.getD_eq_getD_getElem?,Array.getD_eq_getD_getElem?,h]
noncomputable def Asc (lt:Nat→Nat→Bool) (p:Array Nat) (k:Nat):Prop:=∀ i j,i<j→j<k→lt (p.getD i 0) (p.getD j 0)=true
noncomputable def Desc (lt:Nat→Nat→Bool) (p:Array Nat) (k:Nat):Prop:=∀ i j,i<j→j<k→lt (p.getD j 0) (p.getD i 0)=true
theorem kg_asc (L:LtOk lt n) {p:Array Nat} (hp:Arr p n):∀ (f k:Nat),1≤k→k+f=n→Asc lt p k→KGood lt n (kas_asc p f k) fun m=>k≤m∧m≤n∧Asc lt p m∧(m<n→lt (p.getD m 0) (p.getD (m-1) 0)=true)
 | 0,k,h1,hk,hs=>⟨Nat.le_refl _,by exact far [_,_] [] (.a Z0 Z1) [.c (.p Z0 (.n 0)) Z1] [1,1] (fm hk fz) rfl,hs,fun q=>absurd q (by lia)⟩
 | f+1,k,h1,hk,hs=>by
  refine ⟨hp.bd (by exact far [_,_,_] [] (.b Z0 Z1) [.c (.p Z0 (.p Z2 (.n 1))) Z1] [1,1] (fm hk fz) rfl),hp.bd (by exact far [_,_,_,_] [] (.b Z0 Z1) [.c (.p Z2 (.p Z3 (.n 1))) Z1,.a Z0 Z2] [1,1,1] (fm hk (fm (Nat.sub_le _ _) fz)) rfl),?_⟩
  cases c:lt (p.getD k 0) (p.getD (k-1) 0) with
  | true=>
   dsimp only
   rw [if_pos rfl]
   exact ⟨Nat.le_refl _,by exact far [_,_,_] [] (.a Z0 Z1) [.c (.p Z0 (.p Z2 (.n 1))) Z1] [1,1] (fm hk fz) rfl,hs,fun _=>c⟩
  | false=>
   dsimp only
   rw [if_neg (by decide)]
   have hlast:lt (p.getD (k-1) 0) (p.getD k 0)=true:=L.tot _ _ (hp.bd (by exact far [_,_,_] [] (.b Z0 Z1) [.c (.p Z0 (.p Z2 (.n 1))) Z1] [1,1] (fm hk fz) rfl)) (hp.bd (by exact far [_,_,_,_] [] (.b Z0 Z1) [.c (.p Z2 (.p Z3 (.n 1))) Z1,.a Z0 Z2] [1,1,1] (fm hk (fm (Nat.sub_le _ _) fz)) rfl)) (hp.ne (by exact far [_,_,_] [] (.b Z0 Z1) [.c (.p Z0 (.p Z2 (.n 1))) Z1] [1,1] (fm hk fz) rfl) (by exact far [_,_,_,_] [] (.b Z0 Z1) [.c (.p Z2 (.p Z3 (.n 1))) Z1,.a Z0 Z2] [1,1,1] (fm hk (fm (Nat.sub_le _ _) fz)) rfl) (by lia)) c
   refine kgood_mono (fun m hm=>⟨by exact far [_,_] [] (.a Z0 Z1) [.a (.p Z0 (.n 1)) Z1] [1,1] (fm hm.1 fz) rfl,hm.2⟩) _ (kg_asc L hp f (k+1) (by lia) (by exact Nat.le_antisymm (far [_,_,_] [] (.a (.p (.p Z0 (.n 1)) Z1) Z2) [.c (.p Z0 (.p Z1 (.n 1))) Z2] [1,1] (fm hk fz) rfl) (far [_,_,_] [] (.a Z0 (.p (.p Z1 (.n 1)) Z2)) [.c (.p Z1 (.p Z2 (.n 1))) Z0] [1,-1] (fm hk fz) rfl)) fun i j hij hj=>?_)
   by_cases e:j=k
   ·subst e
    by_cases e2:i=j-1
    ·subst e2; exact hlast
    ·exact L.trans _ _ _ (hp.bd (by exact far [_,_,_,_] [] (.b Z0 Z1) [.c (.p Z2 (.p Z3 (.n 1))) Z1,.b Z0 Z2] [1,1,1] (fm hk (fm hij fz)) rfl)) (hp.bd (by exact far [_,_,_,_] [] (.b Z0 Z1) [.c (.p Z2 (.p Z3 (.n 1))) Z1,.a Z0 Z2] [1,1,1] (fm hk (fm (Nat.sub_le _ _) fz)) rfl)) (hp.bd (by exact far [_,_,_] [] (.b Z0 Z1) [.c (.p Z0 (.p Z2 (.n 1))) Z1] [1,1] (fm hk fz) rfl)) (hs i (j-1) (by lia) (by exact far [_,_] [] (.b Z0 Z1) [.c (.p Z0 (.n 1)) Z1] [1,1] (fm (ns2 (far [_] [] (.a (.n 1) Z0) [.a (.n 1) Z0] [1,1] (fm h1 fz) rfl)) fz) rfl)) hlast
   ·exact hs i j hij (by lia)
theorem kg_desc (L:LtOk lt n) {p:Array Nat} (hp:Arr p n):∀ (f k:Nat),1≤k→k+f=n→Desc lt p k→KGood lt n (kas_desc f p k 0) fun r=>∃ m,r=(p,m,0)∧k≤m∧m≤n∧Desc lt p m
 | 0,k,h1,hk,hs=>⟨k,rfl,Nat.le_refl _,by exact far [_,_] [] (.a Z0 Z1) [.c (.p Z0 (.n 0)) Z1] [1,1] (fm hk fz) rfl,hs⟩
 | f+1,k,h1,hk,hs=>by
  refine ⟨hp.bd (by exact far [_,_,_] [] (.b Z0 Z1) [.c (.p Z0 (.p Z2 (.n 1))) Z1] [1,1] (fm hk fz) rfl),hp.bd (by exact far [_,_,_,_] [] (.b Z0 Z1) [.c (.p Z2 (.p Z3 (.n 1))) Z1,.a Z0 Z2] [1,1,1] (fm hk (fm (Nat.sub_le _ _) fz)) rfl),?_⟩
  cases c:lt (p.getD k 0) (p.getD (k-1) 0) with
  | true=>
   dsimp only
   rw [if_pos rfl,if_neg (by decide)]
   refine kgood_mono (fun r ⟨m,e,h⟩=>⟨m,e,by exact far [_,_] [] (.a Z0 Z1) [.a (.p Z0 (.n 1)) Z1] [1,1] (fm h.1 fz) rfl,h.2⟩) _ (kg_desc L hp f (k+1) (by lia) (by exact Nat.le_antisymm (far [_,_,_] [] (.a (.p (.p Z0 (.n 1)) Z1) Z2) [.c (.p Z0 (.p Z1 (.n 1))) Z2] [1,1] (fm hk fz) rfl) (far [_,_,_] [] (.a Z0 (.p (.p Z1 (.n 1)) Z2)) [.c (.p Z1 (.p Z2 (.n 1))) Z0] [1,-1] (fm hk fz) rfl)) fun i j hij hj=>?_)
   by_cases e:j=k
   ·subst e
    by_cases e2:i=j-1
    ·subst e2; exact c
    ·exact L.trans _ _ _ (hp.bd (by exact far [_,_,_] [] (.b Z0 Z1) [.c (.p Z0 (.p Z2 (.n 1))) Z1] [1,1] (fm hk fz) rfl)) (hp.bd (by exact far [_,_,_,_] [] (.b Z0 Z1) [.c (.p Z2 (.p Z3 (.n 1))) Z1,.a Z0 Z2] [1,1,1] (fm hk (fm (Nat.sub_le _ _) fz)) rfl)) (hp.bd (by exact far [_,_,_,_] [] (.b Z0 Z1) [.c (.p Z2 (.p Z3 (.n 1))) Z1,.b Z0 Z2] [1,1,1] (fm hk (fm hij fz)) rfl)) c (hs i (j-1) (by lia) (by exact far [_,_] [] (.b Z0 Z1) [.c (.p Z0 (.n 1)) Z1] [1,1] (fm (ns2 (far [_] [] (.a (.n 1) Z0) [.a (.n 1) Z0] [1,1] (fm h1 fz) rfl)) fz) rfl))
   ·exact hs i j hij (by lia)
  | false=>
   dsimp only
   rw [if_neg (by decide)]
   refine ⟨hp.bd (by exact far [_,_,_,_] [] (.b Z0 Z1) [.c (.p Z2 (.p Z3 (.n 1))) Z1,.a Z0 Z2] [1,1,1] (fm hk (fm (Nat.sub_le _ _) fz)) rfl),hp.bd (by exact far [_,_,_] [] (.b Z0 Z1) [.c (.p Z0 (.p Z2 (.n 1))) Z1] [1,1] (fm hk fz) rfl),?_⟩
   have hlast:lt (p.getD (k-1) 0) (p.getD k 0)=true:=L.tot _ _ (hp.bd (by exact far [_,_,_] [] (.b Z0 Z1) [.c (.p Z0 (.p Z2 (.n 1))) Z1] [1,1] (fm hk fz) rfl)) (hp.bd (by exact far [_,_,_,_] [] (.b Z0 Z1) [.c (.p Z2 (.p Z3 (.n 1))) Z1,.a Z0 Z2] [1,1,1] (fm hk (fm (Nat.sub_le _ _) fz)) rfl)) (hp.ne (by exact far [_,_,_] [] (.b Z0 Z1) [.c (.p Z0 (.p Z2 (.n 1))) Z1] [1,1] (fm hk fz) rfl) (by exact far [_,_,_,_] [] (.b Z0 Z1) [.c (.p Z2 (.p Z3 (.n 1))) Z1,.a Z0 Z2] [1,1,1] (fm hk (fm (Nat.sub_le _ _) fz)) rfl) (by lia)) c
   rw [hlast]
   dsimp only
   rw [if_pos rfl]
   exact ⟨k,rfl,Nat.le_refl _,by exact far [_,_,_] [] (.a Z0 Z1) [.c (.p Z0 (.p Z2 (.n 1))) Z1] [1,1] (fm hk fz) rfl,hs⟩
theorem rev_arr {p:Array Nat} (hp:Arr p n) (m:Nat):Arr (kas_rev p 0 m) n:=hp.of_perm (mirror_perm _ _ _ _)
theorem rev_get {p:Array Nat} (hp:Arr p n) {m:Nat} (hm:m≤n) {i:Nat} (hi:i<m):(kas_rev p 0 m).getD i 0=p.getD (m-1-i) 0:=by
 refine getD_of ?_
 unfold kas_rev
 rw [getElem?_mirror_all (by rw [hp.size]; exact hm),if_pos ⟨Nat.zero_le _,hi⟩]
 congr 1; lia
noncomputable def KOut (lt:Nat→Nat→Bool) (n:Nat) (r:Nat×Array Nat):Prop:=1≤r.1∧r.1≤n∧Arr r.2 n∧Asc lt r.2 r.1
theorem kg_tail3 (L:LtOk lt n) {p:Array Nat} (hp:Arr p n) {k:Nat} (h1:1≤k) (hk:k≤n) (hs:Desc lt p k):KGood lt n (kas_tail3 k n p) (KOut lt n):=by
 have ha:Asc lt (kas_rev p 0 k) k:=fun i j hij hj=>by
  rw [rev_get hp hk (by exact far [_,_,_] [] (.b Z0 Z1) [.b Z2 Z1,.b Z0 Z2] [1,1,1] (fm hj (fm hij fz)) rfl),rev_get hp hk hj]
  exact hs _ _ (by exact far [_,_,_,_,_] [] (.b Z0 Z1) [.b Z2 Z3,.a Z4 (.p Z1 Z2),.c (.p Z0 Z3) Z4] [1,1,1,1] (fm hij (fm (ns1 _ _) (fm (ns2 (far [_,_,_] [] (.a Z0 Z1) [.b Z0 Z2,.a Z2 (.p Z1 (.n 1))] [1,1,1] (fm hj (fm (ns1 _ _) fz)) rfl)) fz))) rfl) (by exact far [_,_,_] [] (.b Z0 Z1) [.a Z0 Z2,.c (.p Z2 (.n 1)) Z1] [1,1,1] (fm (Nat.sub_le _ _) (fm (ns2 (far [_] [] (.a (.n 1) Z0) [.a (.n 1) Z0] [1,1] (fm h1 fz) rfl)) fz)) rfl)
 exact kgood_bind _ (kgood_mono (fun m hm=>⟨by show 1≤m; exact far [_,_] [] (.a (.n 1) Z0) [.a (.n 1) Z1,.a Z1 Z0] [1,1,1] (fm h1 (fm hm.1 fz)) rfl,hm.2.1,rev_arr hp k,hm.2.2.1⟩) _ (kg_asc L (rev_arr hp k) (n-k) k h1 (by exact Nat.le_antisymm (far [_,_,_] [] (.a (.p Z0 Z1) Z2) [.c (.p Z1 Z0) Z2] [1,1] (fm (ns2 (far [_,_] [] (.a Z0 Z1) [.a Z0 Z1] [1,1] (fm hk fz) rfl)) fz) rfl) (far [_,_,_] [] (.a Z0 (.p Z1 Z2)) [.a Z0 (.p Z2 Z1)] [1,1] (fm (ns1 _ _) fz) rfl)) ha))
theorem kg_count (L:LtOk lt n) {p:Array Nat} (hp:Arr p n) (h1:1≤n):KGood lt n (kas_count n p) (KOut lt n):=by
 refine kgood_bind _ (kgood_mono (fun m hm=>?_) _ (kg_asc L hp (n-1) 1 (Nat.le_refl _) (by exact Nat.le_antisymm (far [_,_] [] (.a (.p (.n 1) Z0) Z1) [.c (.p Z0 (.n 1)) Z1] [1,1] (fm (ns2 (far [_] [] (.a (.n 1) Z0) [.a (.n 1) Z0] [1,1] (fm h1 fz) rfl)) fz) rfl) (far [_,_] [] (.a Z0 (.p (.n 1) Z1)) [.a Z0 (.p Z1 (.n 1))] [1,1] (fm (ns1 _ _) fz) rfl)) fun i j _ _=>by omega))
 obtain ⟨a1,a2,a3,a4⟩:=hm
 by_cases e:m=n
 ·rw [if_pos (by simpa using e)]; exact ⟨by show 1≤m; omega,a2,hp,a3⟩
 ·rw [if_neg (by simpa using e)]
  by_cases c:m>1
  ·rw [if_pos c]
   refine ⟨hp.bd (by assumption),hp.bd (by exact far [_,_,_] [] (.b Z0 Z1) [.a Z2 Z1,.c (.p Z0 (.n 1)) Z2] [1,1,1] (fm a2 (fm (ns2 (far [_] [] (.a (.n 1) Z0) [.b (.n 1) Z0] [1,1] (fm c fz) rfl)) fz)) rfl),?_⟩
   rw [a3 0 (m-1) (by exact far [_,_] [] (.b (.n 0) Z0) [.b (.n 1) Z1,.a Z1 (.p Z0 (.n 1))] [1,1,1] (fm c (fm (ns1 _ _) fz)) rfl) (by exact far [_,_] [] (.b Z0 Z1) [.c (.p Z0 (.n 1)) Z1] [1,1] (fm (ns2 (far [_] [] (.a (.n 1) Z0) [.b (.n 1) Z0] [1,1] (fm c fz) rfl)) fz) rfl)]
   dsimp only
   rw [if_pos rfl]
   exact ⟨a1,a2,hp,a3⟩
  ·rw [if_neg c]
   have hm:m=1:=by exact Nat.le_antisymm (far [_] [] (.a Z0 (.n 1)) [.g (.b (.n 1) Z0)] [1,1] (fm c fz) rfl) (far [_] [] (.a (.n 1) Z0) [.a (.n 1) Z0] [1,1] (fm a1 fz) rfl)
   subst hm
   have a4:=a4 (by lia)
   refine kgood_bind _ (kgood_mono (fun r hr=>?_) _ (kg_desc L hp (n-(1+1)) (1+1) (by lia) (by lia) fun i j hij hj=>?_))
   ·obtain ⟨m,rfl,b1,b2,b3⟩:=hr
    dsimp only
    rw [if_neg (by decide)]
    exact kg_tail3 L hp (by exact Nat.le_of_lt ‹_›) b2 b3
   ·have:i=0:=by exact Nat.le_antisymm (far [_,_] [] (.a Z0 (.n 0)) [.b Z1 (.p (.n 1) (.n 1)),.b Z0 Z1] [1,1,1] (fm hj (fm hij fz)) rfl) (far [_] [] (.a (.n 0) Z0) [] [1] fz rfl)
    have:j=1:=by exact Nat.le_antisymm (far [_] [] (.a Z0 (.n 1)) [.b Z0 (.p (.n 1) (.n 1))] [1,1] (fm hj fz) rfl) (far [_,_] [] (.a (.n 1) Z0) [.b Z1 Z0] [1,1] (fm hij fz) rfl)
    subst_vars
    exact a4
theorem kg_place (L:LtOk lt n) {p:Array Nat} (hp:Arr p n) {k:Nat} (hk:k<n) (ha:Asc lt p k):∀ (f l r:Nat),r-l≤f→l≤r→r≤k→(∀ i,i<l→lt (p.getD i 0) (p.getD k 0)=true)→(∀ i,r≤i→i<k→lt (p.getD k 0) (p.getD i 0)=true)→
  KGood lt n (kas_place p k f l r) fun m=>m≤k∧(∀ i,i<m→lt (p.getD i 0) (p.getD k 0)=true)∧(∀ i,m≤i→i<k→lt (p.getD k 0) (p.getD i 0)=true)
 | 0,l,r,hf,hlr,hrk,h1,h2=>by
  have:l=r:=by exact Nat.le_antisymm (far [_,_] [] (.a Z0 Z1) [.a Z0 Z1] [1,1] (fm hlr fz) rfl) (far [_,_,_] [] (.a Z0 Z1) [.a Z2 (.n 0),.a Z0 (.p Z2 Z1)] [1,1,1] (fm hf (fm (ns1 _ _) fz)) rfl)
  subst this
  exact ⟨hrk,h1,h2⟩
 | f+1,l,r,hf,hlr,hrk,h1,h2=>by
  unfold kas_place
  by_cases e:l≥r
  ·rw [if_pos e]
   have:l=r:=by exact Nat.le_antisymm (far [_,_] [] (.a Z0 Z1) [.a Z0 Z1] [1,1] (fm hlr fz) rfl) (far [_,_] [] (.a Z0 Z1) [.a Z0 Z1] [1,1] (fm e fz) rfl)
   subst this
   exact ⟨hrk,h1,h2⟩
  ·rw [if_neg e]
   refine ⟨hp.bd hk,hp.bd (by exact far [_,_,_,_,_] [] (.b Z0 Z1) [.g (.a Z2 Z3),.b Z4 Z1,.a Z2 Z4,.a (.r Z0 2) (.p Z3 Z2)] [2,1,2,2,1] (fm e (fm hk (fm hrk (fm (nd1 _ _) fz)))) rfl),?_⟩
   cases c:lt (p.getD k 0) (p.getD ((l+r) / 2) 0) with
   | true=>
    dsimp only
    rw [if_pos rfl]
    refine kg_place L hp hk ha f l _ (by exact far [_,_,_,_,_,_] [] (.a Z0 Z1) [.a Z2 (.p Z1 (.n 1)),.a (.r Z3 2) (.p Z4 Z5),.a Z5 (.p Z2 Z4),.c (.p Z0 Z4) Z3] [2,1,1,1,2] (fm hf (fm (nd1 _ _) (fm (ns1 _ _) (fm (ns2 (far [_,_,_] [] (.a Z0 Z1) [.g (.a Z2 Z0),.b (.p Z0 Z2) (.p (.r Z1 2) (.n 2))] [2,1,1] (fm e (fm (nd2 _ _ rfl) fz)) rfl)) fz)))) rfl) (by exact far [_,_,_] [] (.a Z0 Z1) [.g (.a Z2 Z0),.b (.p Z0 Z2) (.p (.r Z1 2) (.n 2))] [2,1,1] (fm e (fm (nd2 _ _ rfl) fz)) rfl) (by exact far [_,_,_,_] [] (.a Z0 Z1) [.g (.a Z2 Z3),.a Z2 Z1,.a (.r Z0 2) (.p Z3 Z2)] [2,1,2,1] (fm e (fm hrk (fm (nd1 _ _) fz))) rfl) h1 fun i hi hik=>?_
    by_cases e2:i=(l+r) / 2
    ·subst e2; exact c
    ·exact L.trans _ _ _ (hp.bd hk) (hp.bd (by exact far [_,_,_,_] [] (.b Z0 Z1) [.b Z2 Z1,.a Z0 Z3,.b Z3 Z2] [1,1,1,1] (fm hk (fm hi (fm hik fz))) rfl)) (hp.bd (by exact far [_,_,_] [] (.b Z0 Z1) [.b Z2 Z1,.b Z0 Z2] [1,1,1] (fm hk (fm hik fz)) rfl)) c (ha _ _ (by lia) hik)
   | false=>
    dsimp only
    rw [if_neg (by decide)]
    have c':lt (p.getD ((l+r) / 2) 0) (p.getD k 0)=true:=L.tot _ _ (hp.bd hk) (hp.bd (by exact far [_,_,_,_,_] [] (.b Z0 Z1) [.g (.a Z2 Z3),.b Z4 Z1,.a Z2 Z4,.a (.r Z0 2) (.p Z3 Z2)] [2,1,2,2,1] (fm e (fm hk (fm hrk (fm (nd1 _ _) fz)))) rfl)) (hp.ne hk (by exact far [_,_,_,_,_] [] (.b Z0 Z1) [.g (.a Z2 Z3),.b Z4 Z1,.a Z2 Z4,.a (.r Z0 2) (.p Z3 Z2)] [2,1,2,2,1] (fm e (fm hk (fm hrk (fm (nd1 _ _) fz)))) rfl) (by lia)) c
    refine kg_place L hp hk ha f _ r (by exact far [_,_,_,_,_,_] [] (.a Z0 Z1) [.a Z2 (.p Z1 (.n 1)),.a Z3 (.p Z2 Z4),.b (.p Z4 Z3) (.p (.r Z5 2) (.n 2)),.c (.p Z0 (.p Z5 (.n 1))) Z3] [2,1,1,1,2] (fm hf (fm (ns1 _ _) (fm (nd2 _ _ rfl) (fm (ns2 (far [_,_,_] [] (.a (.p Z0 (.n 1)) Z1) [.g (.a Z1 Z2),.a (.r Z0 2) (.p Z2 Z1)] [2,1,1] (fm e (fm (nd1 _ _) fz)) rfl)) fz)))) rfl) (by exact far [_,_,_] [] (.a (.p Z0 (.n 1)) Z1) [.g (.a Z1 Z2),.a (.r Z0 2) (.p Z2 Z1)] [2,1,1] (fm e (fm (nd1 _ _) fz)) rfl) hrk (fun i hi=>?_) h2
    by_cases e2:i=(l+r) / 2
    ·subst e2; exact c'
    ·exact L.trans _ _ _ (hp.bd (by exact far [_,_,_,_,_,_] [] (.b Z0 Z1) [.g (.a Z2 Z3),.b Z4 Z1,.b Z0 (.p Z5 (.n 1)),.a Z2 Z4,.a (.r Z5 2) (.p Z3 Z2)] [2,1,2,2,2,1] (fm e (fm hk (fm hi (fm hrk (fm (nd1 _ _) fz))))) rfl)) (hp.bd (by exact far [_,_,_,_,_] [] (.b Z0 Z1) [.g (.a Z2 Z3),.b Z4 Z1,.a Z2 Z4,.a (.r Z0 2) (.p Z3 Z2)] [2,1,2,2,1] (fm e (fm hk (fm hrk (fm (nd1 _ _) fz)))) rfl)) (hp.bd hk) (ha _ _ (by lia) (by exact far [_,_,_,_] [] (.b Z0 Z1) [.g (.a Z2 Z3),.a Z2 Z1,.a (.r Z0 2) (.p Z3 Z2)] [2,1,2,1] (fm e (fm hrk (fm (nd1 _ _) fz))) rfl)) c'
theorem kg_bin (L:LtOk lt n):∀ (f:Nat) (p:Array Nat) (k:Nat),Arr p n→k+f=n→Asc lt p k→KGood lt n (kas_bin f p k) fun q=>Arr q n∧Asc lt q n
 | 0,p,k,hp,hk,ha=>by
  have:k=n:=by omega
  subst this
  exact ⟨hp,ha⟩
 | f+1,p,k,hp,hk,ha=>by
  refine kgood_bind _ (kgood_mono (fun l hl=>?_) _ (kg_place L hp (by exact far [_,_,_] [] (.b Z0 Z1) [.c (.p Z0 (.p Z2 (.n 1))) Z1] [1,1] (fm hk fz) rfl) ha k 0 k (by lia) (by lia) (Nat.le_refl _) (fun i hi=>by lia) (fun i h1 h2=>by lia)))
  obtain ⟨b1,b2,b3⟩:=hl
  have hg:∀ i,(bubble p k (k-l)).getD i 0=if i=l then p.getD k 0 else if l<i∧i≤k then p.getD (i-1) 0 else p.getD i 0:=fun i=>by
   have e:=getElem?_bubble (xs:=p) (src:=k) (by rw [hp.size]; exact far [_,_,_] [] (.b Z0 Z1) [.c (.p Z0 (.p Z2 (.n 1))) Z1] [1,1] (fm hk fz) rfl) (k-l) (by exact far [_,_] [] (.a Z0 Z1) [.a Z0 Z1] [1,1] (fm (Nat.sub_le _ _) fz) rfl) i
   have e1:k-(k-l)=l:=by exact Nat.le_antisymm (far [_,_,_,_] [] (.a Z0 Z1) [.a Z2 (.p Z3 Z1),.c (.p Z0 Z3) Z2] [1,1,1] (fm (ns1 _ _) (fm (ns2 (far [_,_] [] (.a Z0 Z1) [.a Z0 Z1] [1,1] (fm (Nat.sub_le _ _) fz) rfl)) fz)) rfl) (far [_,_,_,_] [] (.a Z0 Z1) [.a Z2 (.p Z1 Z3),.c (.p Z3 Z0) Z2] [1,1,1] (fm (ns1 _ _) (fm (ns2 (far [_,_] [] (.a Z0 Z1) [.a Z0 Z1] [1,1] (fm b1 fz) rfl)) fz)) rfl)
   rw [e1] at e
   by_cases c1:i=l
   ·rw [if_pos c1] at e ⊢; exact getD_of e
   ·rw [if_neg c1] at e ⊢
    by_cases c2:l<i∧i≤k
    ·rw [if_pos c2] at e ⊢; exact getD_of e
    ·rw [if_neg c2] at e ⊢; exact getD_of e
  refine kg_bin L f _ (k+1) (hp.of_perm (bubble_perm _ _ _)) (by exact Nat.le_antisymm (far [_,_,_] [] (.a (.p (.p Z0 (.n 1)) Z1) Z2) [.c (.p Z0 (.p Z1 (.n 1))) Z2] [1,1] (fm hk fz) rfl) (far [_,_,_] [] (.a Z0 (.p (.p Z1 (.n 1)) Z2)) [.c (.p Z1 (.p Z2 (.n 1))) Z0] [1,-1] (fm hk fz) rfl)) fun i j hij hj=>?_
  rw [hg,hg]
  by_cases c1:i=l
  ·subst c1
   rw [if_pos rfl,if_neg (by lia),if_pos (by exact ⟨far [_,_] [] (.b Z0 Z1) [.b Z0 Z1] [1,1] (fm hij fz) rfl,far [_,_] [] (.a Z0 Z1) [.b Z0 (.p Z1 (.n 1))] [1,1] (fm hj fz) rfl⟩)]
   exact b3 _ (by exact far [_,_,_] [] (.a Z0 Z1) [.b Z0 Z2,.a Z2 (.p Z1 (.n 1))] [1,1,1] (fm hij (fm (ns1 _ _) fz)) rfl) (by exact far [_,_,_] [] (.b Z0 Z1) [.b Z2 (.p Z1 (.n 1)),.c (.p Z0 (.n 1)) Z2] [1,1,1] (fm hj (fm (ns2 (far [_,_] [] (.a (.n 1) Z0) [.b Z1 Z0] [1,1] (fm hij fz) rfl)) fz)) rfl)
  ·rw [if_neg c1]
   by_cases c2:l<i∧i≤k
   ·rw [if_pos c2,if_neg (by lia),if_pos (by exact ⟨far [_,_,_] [] (.b Z0 Z1) [.b Z2 Z1,.b Z0 Z2] [1,1,1] (fm hij (fm c2.1 fz)) rfl,far [_,_] [] (.a Z0 Z1) [.b Z0 (.p Z1 (.n 1))] [1,1] (fm hj fz) rfl⟩)]
    exact ha _ _ (by exact far [_,_,_,_] [] (.b Z0 Z1) [.b Z2 Z3,.a Z3 (.p Z1 (.n 1)),.c (.p Z0 (.n 1)) Z2] [1,1,1,1] (fm hij (fm (ns1 _ _) (fm (ns2 (far [_,_] [] (.a (.n 1) Z0) [.b Z1 Z0] [1,1] (fm c2.1 fz) rfl)) fz))) rfl) (by exact far [_,_,_] [] (.b Z0 Z1) [.b Z2 (.p Z1 (.n 1)),.c (.p Z0 (.n 1)) Z2] [1,1,1] (fm hj (fm (ns2 (far [_,_,_] [] (.a (.n 1) Z0) [.b Z1 Z0,.b Z2 Z1] [1,1,1] (fm hij (fm c2.1 fz)) rfl)) fz)) rfl)
   ·rw [if_neg c2]
    by_cases c3:j=l
    ·rw [if_pos c3]
     exact b2 _ (by exact far [_,_,_] [] (.b Z0 Z1) [.c Z2 Z1,.b Z0 Z2] [1,1,1] (fm c3 (fm hij fz)) rfl)
    ·rw [if_neg c3]
     by_cases c4:l<j∧j≤k
     ·rw [if_pos c4]
      by_cases c5:i=j-1
      ·lia
      ·exact ha _ _ (by lia) (by exact far [_,_,_] [] (.b Z0 Z1) [.a Z2 Z1,.c (.p Z0 (.n 1)) Z2] [1,1,1] (fm c4.2 (fm (ns2 (far [_,_] [] (.a (.n 1) Z0) [.b Z1 Z0] [1,1] (fm hij fz) rfl)) fz)) rfl)
     ·rw [if_neg c4]
      exact ha _ _ hij (by lia)
theorem kg_sort (L:LtOk lt n) (h1:1≤n):KGood lt n (kas_sort n) fun q=>Arr q n∧Asc lt q n:=by
 refine kgood_bind _ (kgood_mono (fun r hr=>?_) _ (kg_count L (p:=List.toArray (List.range n)) (List.Perm.refl _) h1))
 obtain ⟨a1,a2,a3,a4⟩:=hr
 by_cases c:r.1<n
 ·rw [if_pos c]
  rw [Nat.max_eq_left a1]
  exact kg_bin L _ _ _ a3 (by exact Nat.le_antisymm (far [_,_,_] [] (.a (.p Z0 Z1) Z2) [.c (.p Z1 Z0) Z2] [1,1] (fm (ns2 (far [_,_] [] (.a Z0 Z1) [.b Z0 Z1] [1,1] (fm c fz) rfl)) fz) rfl) (far [_,_,_] [] (.a Z0 (.p Z1 Z2)) [.a Z0 (.p Z2 Z1)] [1,1] (fm (ns1 _ _) fz) rfl)) a4
 ·rw [if_neg c]
  have e:r.1=n:=by exact Nat.le_antisymm (far [_,_] [] (.a Z0 Z1) [.a Z0 Z1] [1,1] (fm a2 fz) rfl) (far [_,_] [] (.a Z0 Z1) [.g (.b Z1 Z0)] [1,1] (fm c fz) rfl)
  rw [e] at a4
  exact ⟨a3,a4⟩
end
end Mine
namespace Mine
open PySem PySem.W PyProof.Rows PySem.Spec PySem.Calls
section
variable {prog:Program} {w:World} {A:Around} {E:Value→Shared→Prop} {s:Shared} {a:Addr} {vs:List Value}
theorem srt_list {n:Nat} {P:PySem.Fin→Shared→Prop} {lt:Nat→Nat→Bool} (L:LtOk lt vs.length) (ho:s.heap.get? a=some (seqObj "list" vs.toArray n)) (h64:vs.length<64)
  (ask:2≤vs.length→∀ h',(∀ b o,b≠a→s.heap.get? b=some o→h'.get? b=some o)→wpAny (model prog w) A (keyKind' vs.toArray) (fun κ s'=>s'={ s with heap:=h' }∧∀ i j C,i<vs.length→j<vs.length→C (lt i j) s'→kas_ask prog w A κ vs i j C s') (fun _ _=>False) { s with heap:=h' })
  (fin:∀ p:List Nat,p.Perm (List.range vs.length)→(∀ i j,i<j→j<vs.length→lt (p.getD i 0) (p.getD j 0)=true)→∀ h' c,(∀ b o,b≠a→s.heap.get? b=some o→h'.get? b=some o)→
   h'.get? a=some (seqObj "list" (p.map fun i=>vs.getD i Value.none).toArray c)→P (.done (.ret .none)) { s with heap:=h' }):
  wpAny (model prog w) A (Builtin.«list.sort» ⟨[.ref a],[]⟩) P E s:=by
 have ha:a<s.heap.objs.size:=Heap.lt_size ho
 obtain ⟨e1,ho1⟩:∃ e1,(s.heap.update a (Obj.mapSeq fun _=>(#[]:Array Value))).get? a=some (seqObj "list" #[] e1):=⟨_,get?_update_seq ho fun _=>#[]⟩
 have k1:∀ b o,b≠a→s.heap.get? b=some o→(s.heap.update a (Obj.mapSeq fun _=>(#[]:Array Value))).get? b=some o:=fun b o hb q=>(Heap.get?_update_other _ _ (Ne.symm hb)).trans q
 have k2:∀ b o,b≠a→s.heap.get? b=some o→(((s.heap.update a (Obj.mapSeq fun _=>(#[]:Array Value))).push (seqObj "tuple" vs.toArray 0)).push (seqObj "list" #[] 0)).get? b=some o:=
  fun b o hb q=>Heap.get?_push_of_some _ (Heap.get?_push_of_some _ (k1 b o hb q))
 have ho2:(((s.heap.update a (Obj.mapSeq fun _=>(#[]:Array Value))).push (seqObj "tuple" vs.toArray 0)).push (seqObj "list" #[] 0)).get? a=some (seqObj "list" #[] e1):=Heap.get?_push_of_some _ (Heap.get?_push_of_some _ ho1)
 rw [list_sort_plain]
 refine wpAny_bind (listItems_at ho rfl ?_)
 refine wpAny_bind (listUpdate_at ho rfl ?_ (by rw [List.size_toArray,sizeLine_eq]; exact nC h64 rfl) (Nat.zero_le _))
 refine wpAny_bind (seqEpoch_at ho1 rfl ?_)
 refine wpAny_bind (wpAny_newTuple ?_ (by show vs.length≤_; rw [sizeLine_eq]; exact nC h64 rfl))
 refine wpAny_bind (wpAny_newList ?_ (Nat.zero_le _))
 refine wpAny_holding ?_
 generalize (((s.heap.update a (Obj.mapSeq fun _=>(#[]:Array Value))).push (seqObj "tuple" vs.toArray 0)).push (seqObj "list" #[] 0))=h2 at k2 ho2
 show wpAny (model prog w) A _ P E { s with heap:=h2 }
 dsimp only
 by_cases hn:vs.length<2
 ·have hn':vs.toArray.size<2:=by rw [List.size_toArray]; exact hn
  rw [if_pos hn',if_pos hn']
  refine wpAny_bind (wpAny_pure ?_)
  rw [StateT.run_pure]
  refine wpAny_bind (wpAny_pure ?_)
  dsimp only
  have hout:(arrOf (SortSt.mk' general' (vs.toArray.zip vs.toArray) #[] 7 none)).map (·.2)=((List.range vs.length).map fun i=>vs.getD i Value.none).toArray:=by
   show (pairsOf vs).map (·.2)=_
   apply Array.toList_inj.mp
   rw [Array.toList_map]
   apply List.ext_getElem
   ·rw [List.length_map,Array.length_toList,pairsOf_size]; simp
   ·intro i h1 h2
    simp [pairsOf]
    rw [List.getElem?_eq_getElem (by simpa using h2)]; rfl
  rw [hout]
  have hsz:((List.range vs.length).map fun i=>vs.getD i Value.none).toArray.size=vs.length:=by simp
  refine wpAny_bind (seqEpoch_at ho2 rfl ?_)
  refine wpAny_bind (listUpdate_at ho2 rfl ?_ (Nat.zero_le _) (by rw [hsz,sizeLine_eq]; exact far [_] [] (.a Z0 (.p (.n 16777216) (.n 1))) [.b Z0 (.n 2)] [1,1] (fm hn fz) rfl))
  simp only [bne_self_eq_false,Bool.false_eq_true,if_false]
  obtain ⟨c2,hc2⟩:∃ c2,(h2.update a (Obj.mapSeq fun _=>((List.range vs.length).map fun i=>vs.getD i Value.none).toArray)).get? a=some (seqObj "list" ((List.range vs.length).map fun i=>vs.getD i Value.none).toArray c2):=⟨_,get?_update_seq ho2 fun _=>_⟩
  refine wpAny_pure (fin (List.range vs.length) (List.Perm.refl _) (fun i j h1 h2=>by lia) _ c2 (fun b o hb q=>(Heap.get?_update_other _ _ (Ne.symm hb)).trans (k2 b o hb q)) hc2)
 ·have hn':¬ vs.toArray.size<2:=by rw [List.size_toArray]; exact hn
  rw [if_neg hn',if_neg hn']
  refine wpAny_bind (wpAny_mono (ask (by exact far [_] [] (.a (.n 2) Z0) [.g (.b Z0 (.n 2))] [1,1] (fm hn fz) rfl) h2 k2) (fun κ s0 hk=>?_) fun _ _ x=>x.elim)
  obtain ⟨rfl,hk⟩:=hk
  have tree:(kas_sort vs.length).kasWp (kas_ask prog w A κ vs) (fun p s'=>s'={ s with heap:=h2 }∧Arr p vs.length∧Asc lt p vs.length) { s with heap:=h2 }:=
   kgood_wp hk (fun p q=>⟨rfl,q⟩) _ (kg_sort L (by exact far [_] [] (.a (.n 1) Z0) [.g (.b Z0 (.n 2))] [1,1] (fm hn fz) rfl))
  refine wpAny_bind (wpAny_mono (kat_run (E:=E) (Q:=fun st' s'=>∃ p:Array Nat,p.size=vs.length∧arrOf st'=p.map (kas_item (vs.toArray.zip vs.toArray))∧failedOf st'=none∧(s'={ s with heap:=h2 }∧Arr p vs.length∧Asc lt p vs.length))
   rfl (by exact far [_] [] (.a (.n 2) Z0) [.g (.b Z0 (.n 2))] [1,1] (fm hn fz) rfl) h64 (fun p' st' s' a1 a2 a3 a4=>⟨p',a1,a2,a3,a4⟩) tree) ?_ fun _ _ e=>e)
  rintro ⟨⟨⟩,st'⟩ s' ⟨p,hp,har,hf,rfl,hA,hS⟩
  dsimp only
  have hout:=kat_snds rfl har
  have hsz:(List.toArray (p.toList.map fun i=>vs.getD i Value.none)).size=vs.length:=by rw [List.size_toArray,List.length_map,Array.length_toList,hp]
  rw [hout]
  obtain ⟨c2,hc2⟩:∃ c2,(h2.update a (Obj.mapSeq fun _=>List.toArray (p.toList.map fun i=>vs.getD i Value.none))).get? a=some (seqObj "list" (List.toArray (p.toList.map fun i=>vs.getD i Value.none)) c2):=⟨_,get?_update_seq ho2 fun _=>List.toArray (p.toList.map fun i=>vs.getD i Value.none)⟩
  refine wpAny_bind (seqEpoch_at ho2 rfl ?_)
  refine wpAny_bind (listUpdate_at ho2 rfl ?_ (Nat.zero_le _) (Nat.le_trans (Nat.le_of_eq hsz) (by rw [sizeLine_eq]; exact far [_] [] (.a Z0 (.p (.n 16777216) (.n 1))) [.b Z0 (.n 64)] [1,1] (fm h64 fz) rfl)))
  rw [hf]
  simp only [bne_self_eq_false,Bool.false_eq_true,if_false]
  refine wpAny_pure (fin p.toList hA (fun i j h1 h2=>?_) _ c2 (fun b o hb q=>(Heap.get?_update_other _ _ (Ne.symm hb)).trans (k2 b o hb q)) hc2)
  have:=hS i j h1 h2
  rw [Array.getD_eq_getD_getElem?,Array.getD_eq_getD_getElem?] at this
  rw [List.getD_eq_getElem?_getD,List.getD_eq_getElem?_getD,Array.getElem?_toList,Array.getElem?_toList]
  exact this
theorem srt_sorted {l:Addr} {Q:Value→Shared→Prop} {lt:Nat→Nat→Bool} (L:LtOk lt vs.length) (hl:s.heap.IsList l vs.toArray) (h64:vs.length<64)
  (ask:2≤vs.length→∀ h',(∀ b o,s.heap.get? b=some o→h'.get? b=some o)→wpAny (model prog w) A.in1.in1 (keyKind' vs.toArray) (fun κ s'=>s'={ s with heap:=h' }∧∀ i j C,i<vs.length→j<vs.length→C (lt i j) s'→kas_ask prog w A.in1.in1 κ vs i j C s') (fun _ _=>False) { s with heap:=h' })
  (fin:∀ p:List Nat,p.Perm (List.range vs.length)→(∀ i j,i<j→j<vs.length→lt (p.getD i 0) (p.getD j 0)=true)→∀ h' c,(∀ b o,s.heap.get? b=some o→h'.get? b=some o)→
   h'.get? (s.heap.objs.size+1)=some (seqObj "list" (p.map fun i=>vs.getD i Value.none).toArray c)→Q (.ref (s.heap.objs.size+1)) { s with heap:=h' }):
  wpAny (model prog w) A (call (.builtin "sorted") [.ref l]) Q E s:=by
 refine Calls.call_function_entry kind_sorted plain_sorted entry_sorted (args_sorted1 _) ?_
 unfold Builtin.«sorted»
 refine wpAny_bind (m:=checkCount "sorted" 1 1 _) (wpAny_pure ?_)
 refine wpAny_bind (collect_list hl ?_ (by rw [sizeLine_eq]; exact nC h64 rfl))
 refine wpAny_bind (wpAny_newList ?_ (by rw [sizeLine_eq]; exact nC h64 rfl))
 have hsz:((s.heap.push (seqObj "list" #[] 0)).update s.heap.objs.size (Obj.mapSeq (·++vs.toArray))).objs.size=s.heap.objs.size+1:=by
  rw [Heap.size_update,size_push']
 have hoL:(((s.heap.push (seqObj "list" #[] 0)).update s.heap.objs.size (Obj.mapSeq (·++vs.toArray))).push (seqObj "list" vs.toArray 0)).get? (s.heap.objs.size+1)=some (seqObj "list" vs.toArray 0):=by
  rw [← hsz]; exact Heap.get?_push_size _ rfl
 have keep:∀ b o,s.heap.get? b=some o→(((s.heap.push (seqObj "list" #[] 0)).update s.heap.objs.size (Obj.mapSeq (·++vs.toArray))).push (seqObj "list" vs.toArray 0)).get? b=some o:=fun b o q=>by
  have hlt:b<s.heap.objs.size:=Heap.lt_size q
  exact Heap.get?_push_of_some _ ((Heap.get?_update_other _ _ (Nat.ne_of_gt hlt)).trans (Heap.get?_push_of_some _ q))
 show wpAny _ _ _ _ _ { s with heap:=((s.heap.push (seqObj "list" #[] 0)).update s.heap.objs.size (Obj.mapSeq (·++vs.toArray))).push (seqObj "list" vs.toArray 0) }
 rw [hsz]
 generalize ((s.heap.push (seqObj "list" #[] 0)).update s.heap.objs.size (Obj.mapSeq (·++vs.toArray))).push (seqObj "list" vs.toArray 0)=h3 at hoL keep
 have ne:∀ b o,s.heap.get? b=some o→b≠s.heap.objs.size+1:=fun b o q=>Nat.ne_of_lt (Nat.lt_succ_of_lt (Heap.lt_size q))
 refine wpAny_bind (wpAny_holding (wpAny_call_entry slot_list_sort ⟨_,hoL,rfl⟩ entry_list_sort ?body (args_list_sort _)))
 case body=>
  refine srt_list (s:={ s with heap:=h3 }) L hoL h64 (fun h2 h' hk=>?_) fun p hp hs h' c hk hg=>⟨_,rfl,wpAny_pure ⟨_,rfl,?_⟩⟩
  ·exact ask h2 h' fun b o q=>hk b o (ne b o q) (keep b o q)
  ·exact fin p hp hs h' c (fun b o q=>hk b o (ne b o q) (keep b o q)) hg
end
inductive Tups (led:Led):List Addr→List (Int×Int)→Prop
 | nil:Tups led [] []
 | cons {a:Addr} {p:Int×Int} {as:List Addr} {ps:List (Int×Int)}:(a,OS.tup [.int p.1,.int p.2])∈led→Tups led as ps→Tups led (a::as) (p::ps)
theorem Tups.mono {led led':Led} {as:List Addr} {ps:List (Int×Int)} (h:Tups led as ps) (k:∀ p∈led,p∈led'):Tups led' as ps:=by
 induction h with
 | nil=>exact .nil
 | cons m _ ih=>exact .cons (k _ m) ih
theorem Tups.length {led:Led} {as:List Addr} {ps:List (Int×Int)} (h:Tups led as ps):as.length=ps.length:=by
 induction h with
 | nil=>rfl
 | cons _ _ ih=>simp [ih]
theorem Tups.get {led:Led} {as:List Addr} {ps:List (Int×Int)} (h:Tups led as ps):∀ {i:Nat},i<ps.length→(as.getD i 0,OS.tup [.int (ps.getD i (0,0)).1,.int (ps.getD i (0,0)).2])∈led:=by
 induction h with
 | nil=>intro i hi; simp at hi
 | cons m _ ih=>
  intro i hi
  cases i with
  | zero=>simpa using m
  | succ i=>simpa using ih (by simpa using hi)
theorem Tups.snoc {led:Led} {as:List Addr} {ps:List (Int×Int)} {a:Addr} {p:Int×Int} (h:Tups led as ps) (m:(a,OS.tup [.int p.1,.int p.2])∈led):Tups led (as++[a]) (ps++[p]):=by
 induction h with
 | nil=>exact .cons m .nil
 | cons k _ ih=>exact .cons k ih
theorem Tups.pick {led:Led} {as:List Addr} {ps:List (Int×Int)} (h:Tups led as ps):∀ (l:List Nat),(∀ i∈l,i<ps.length)→Tups led (l.map fun i=>as.getD i 0) (l.map fun i=>ps.getD i (0,0))
 | [],_=>.nil
 | i::l,k=>.cons (h.get (k i (.head _))) (h.pick l fun j hj=>k j (.tail _ hj))
noncomputable def plt (p q:Int×Int):Bool:=decide (p.1<q.1∨(p.1=q.1∧p.2<q.2))
theorem plt_ok {ps:List (Int×Int)} (hn:ps.Nodup):LtOk (fun i j=>plt (ps.getD i (0,0)) (ps.getD j (0,0))) ps.length where
 tot:=fun i j hi hj hij h=>by
  have hne:ps.getD i (0,0)≠ps.getD j (0,0):=by
   rw [List.getD_eq_getElem?_getD,List.getD_eq_getElem?_getD,List.getElem?_eq_getElem hi,List.getElem?_eq_getElem hj]
   exact fun e=>hij ((List.getElem_inj hn).mp e)
  generalize ps.getD i (0,0)=p at *
  generalize ps.getD j (0,0)=q at *
  obtain ⟨p1,p2⟩:=p
  obtain ⟨q1,q2⟩:=q
  simp only [plt,decide_eq_false_iff_not,decide_eq_true_eq,ne_eq,Prod.mk.injEq] at *
  lia
 trans:=fun i j k _ _ _ h1 h2=>by
  simp only [plt,decide_eq_true_eq] at *
  lia
 irr:=fun i j _ _ h=>by
  simp only [plt,decide_eq_true_eq,decide_eq_false_iff_not] at *
  lia
section
variable {B:Bs} {A:Around} {led led':Led} {s:Shared} {E:Value→Shared→Prop} {env:Env}
theorem St.tup2 (H:St B led s) {a:Addr} {x y:Int} (hm:(a,OS.tup [.int x,.int y])∈led):∃ o t u n,s.heap.get? a=some o∧o.cls=.type "tuple" ∧ o.data=.seq #[.int x t,.int y u] n:=by
 obtain ⟨xs,n,hx,hok⟩:=H.isT hm
 have hl:=oks_length hok
 obtain ⟨xs⟩:=xs
 obtain ⟨t,u,e⟩:=oksII (us:=xs) hok
 cases e
 exact ⟨_,t,u,n,hx,rfl,rfl⟩
theorem tups_kat {as:List Addr} {ps:List (Int×Int)} (H:St B led s) (h:Tups led as ps):∃ fs:List Value,KatTups s.heap (as.map .ref) fs∧fs.length=ps.length∧∀ v∈fs,∃ k t,v=.int k t:=by
 induction h with
 | nil=>exact ⟨[],KatTups.nil,rfl,fun v hv=>nomatch hv⟩
 | @cons a p as ps m _ ih=>
  obtain ⟨fs,h1,h2,h3⟩:=ih
  obtain ⟨o,t,u,n,ho,hc,hd⟩:=H.tup2 m
  refine ⟨.int p.1 t::fs,KatTups.cons ho hc hd rfl h1,by simp [h2],fun v hv=>?_⟩
  rcases List.mem_cons.mp hv with rfl | hv
  ·exact ⟨_,_,rfl⟩
  ·exact h3 v hv
theorem sort_tups {l:Addr} {as:List Addr} {ps:List (Int×Int)} {Q:Value→Shared→Prop} (H:St B led s) (hm:(l,OS.lst (as.map .ref))∈led) {G:Led} (ht':Tups G as ps) (hG:∀ p∈G,p∈led) (hn:ps.Nodup) (h64:ps.length<64)
  (h:∀ r as' ps' s',ps'.Perm ps→ps'.Pairwise (fun p q=>plt p q=true)→Tups G as' ps'→St B ((r,.lst (as'.map .ref))::led) s'→Q (.ref r) s'):wpAny (model B.prog B.w) A (call (.builtin "sorted") [.ref l]) Q E s:=by
 have ht:=ht'.mono hG
 obtain ⟨xs,n,hx,hok⟩:=H.isL hm
 have hvs:xs.toList=as.map Value.ref:=by
  clear hm hx h ht ht'
  generalize xs.toList=l at hok
  induction as generalizing l with
  | nil=>match l,hok with | [],_=>rfl
  | cons a as ih=>
   match l,hok with
   | x::l,hok=>
    obtain ⟨e,hok⟩:=hok
    cases e
    rw [List.map_cons,ih l hok]
 have hxs:xs=(as.map Value.ref).toArray:=by rw [← hvs]
 have hlen:(as.map Value.ref).length=ps.length:=by rw [List.length_map,ht.length]
 have hg:∀ i,i<ps.length→(as.map Value.ref).getD i Value.none=.ref (as.getD i 0):=fun i hi=>by
  have hi':i<as.length:=by rw [ht.length]; exact hi
  rw [List.getD_eq_getElem?_getD,List.getD_eq_getElem?_getD,List.getElem?_map,List.getElem?_eq_getElem hi']; rfl
 refine srt_sorted (vs:=as.map Value.ref) (lt:=fun i j=>plt (ps.getD i (0,0)) (ps.getD j (0,0))) (by rw [hlen]; exact plt_ok hn) (by rw [← hxs]; exact isList_of hx) (by rw [hlen]; exact h64) (fun h2 h' hk=>?_) fun p hp hs h' c hk hg'=>?_
 ·have H':St B led { s with heap:=h',toks:=s.toks }:=H.grow0 hk
  obtain ⟨fs,f1,f2,f3⟩:=tups_kat H' ht
  refine kat_kind (T:=.type "int") f1 (by rw [f2]; exact far [_,_] [] (.b (.n 0) Z0) [.a (.n 2) Z1,.c Z1 Z0] [1,1,1] (fm h2 (fm hlen fz)) rfl) (fun v hv=>?_) (by decide +kernel) ⟨rfl,fun i j C hi hj hC=>?_⟩
  ·obtain ⟨k,t,rfl⟩:=f3 v hv
   exact Looks.of_pure rfl
  ·rw [hlen] at hi hj
   unfold kas_ask
   rw [hg i hi,hg j hj]
   obtain ⟨ox,tx,ux,nx,hox,_,hdx⟩:=H'.tup2 (ht.get hi)
   obtain ⟨oy,ty,uy,ny,hoy,_,hdy⟩:=H'.tup2 (ht.get hj)
   refine kat_lt hox hdx hoy hdy ?_
   generalize ps.getD i (0,0)=p at *
   generalize ps.getD j (0,0)=q at *
   show KatLex _ _ _ _ _ _ [(.int p.1 tx,.int q.1 ty),(.int p.2 ux,.int q.2 uy)] 0 _
   refine kat_cons (wpAny_eqBool_int (kat_go (fun e=>kat_yes (kat_cons (wpAny_eqBool_int (kat_go (fun e2=>kat_yes ?_) fun e2=>kat_no ?_)))) fun e=>kat_no ?_))
   ·have e1:p.1=q.1:=by simpa using e
    have e3:p.2=q.2:=by simpa using e2
    refine kat_nil ?_
    have:plt p q=false:=by simp [plt,e1,e3]
    rw [this] at hC
    exact hC
   ·have e1:p.1=q.1:=by simpa using e
    refine kat_one _ _ (lt_int ?_)
    have:plt p q=decide (p.2<q.2):=by simp [plt,e1]
    rw [this] at hC
    exact hC
   ·have e1:p.1≠q.1:=by simpa using e
    refine oneLt_int ?_
    have:plt p q=decide (p.1<q.1):=by simp [plt,e1]
    rw [this] at hC
    exact hC
 ·have hpl:∀ i∈p,i<ps.length:=fun i hi=>by
   have:=hp.mem_iff.mp hi
   rw [hlen] at this
   exact List.mem_range.mp this
  have e1:(p.map fun i=>(as.map Value.ref).getD i Value.none)=(p.map fun i=>as.getD i 0).map Value.ref:=by
   rw [List.map_map]
   exact List.map_congr_left fun i hi=>hg i (hpl i hi)
  rw [e1] at hg'
  have e2:(p.map fun i=>ps.getD i (0,0)).Perm ps:=by
   refine (hp.map _).trans ?_
   rw [hlen]
   have:(List.range ps.length).map (fun i=>ps.getD i (0,0))=ps:=by
    apply List.ext_getElem
    ·simp
    ·intro i h1 h2
     simp [List.getElem?_eq_getElem h2]
   rw [this]
  have hplen:p.length=ps.length:=by rw [hp.length_eq,List.length_range,hlen]
  refine h _ (p.map fun i=>as.getD i 0) (p.map fun i=>ps.getD i (0,0)) _ e2 ?_ (ht'.pick p hpl) ?_
  ·rw [List.pairwise_map,List.pairwise_iff_getElem]
   intro i j hi hj hij
   have:=hs i j hij (by rw [hlen,← hplen]; exact hj)
   have g:∀ i (hi:i<p.length),p.getD i 0=p[i]:=fun i hi=>by simp [List.getElem?_eq_getElem hi]
   rw [g i hi,g j hj] at this
   exact this
  ·have H0:St B led { s with heap:=h',toks:=s.toks }:=H.grow0 hk
   refine H0.add (fun q hq e=>?_) ?_ ?_ hg' ⟨_,_,rfl,?_⟩
   ·obtain ⟨x,hx,_⟩:=H.has q hq
    rw [e] at hx
    exact absurd (Nat.lt_of_succ_lt (Heap.lt_size hx)) (Nat.lt_irrefl _)
   ·cases q:B.base.get? (s.heap.objs.size+1) with
    | none=>rfl
    | some x=>exact absurd (Nat.lt_of_succ_lt (Heap.lt_size (H.keep _ _ q))) (Nat.lt_irrefl _)
   ·exact Nat.lt_succ_of_lt H.size_big
   ·show oks _ ((p.map fun i=>as.getD i 0).map Value.ref)
    generalize (p.map fun i=>as.getD i 0)=z
    induction z with
    | nil=>trivial
    | cons a z ih=>exact ⟨rfl,ih⟩
end
end Mine
namespace Mine
open PySem PySem.W PyProof.Rows PySem.Spec PySem.Calls
section
variable {B:Bs} {A:Around} {led led':Led} {s:Shared} {E:Value→Shared→Prop} {env:Env} {K:Frag} {p:Program} {loose:List Str} {envs:List Env} {n:Nat}
theorem ldCn {x:Str} {v:VS} {c:Addr} {Q:Value→Shared→Prop} (H:St B led s) (hm:(c,OS.cell v)∈led) (hc:env.cells.lookup x=some c) (h:v.all fun u=>Q u s)
  (hk:env.scope.kind=.function) (hl:env.kindOf x=some .cell):wpAny (model B.prog B.w) A (loadName env x) Q E s:=by
 obtain ⟨o,ho,u,hd,ok⟩:=H.get hm
 obtain ⟨u',e,hq⟩:=VS.all_of h ok
 subst e
 exact wpAny_loadName_cell hk hl hc ⟨o,ho,hd⟩ hq
theorem ldC {x:Str} {pos:Pos} {v:VS} {c:Addr} {Q:Value→Shared→Prop} (H:St B led s) (hm:(c,OS.cell v)∈led) (hc:env.cells.lookup x=some c) (h:v.all fun u=>Q u s)
  (hk:env.scope.kind=.function) (hl:env.kindOf x=some .cell) (hd:(x == ("__debug__" : Str))=false):wpAny (model B.prog B.w) A (eval (.Name x pos) env) Q E s:=
 wpAny_Name (ldCn H hm hc h hk hl) hd
theorem stC {x:Str} {u:Value} {v v₀:VS} {c:Addr} {Q:Unit→Shared→Prop} (H:St B led s) (hu:Up c (.cell v₀) (.cell v) led led') (hc:env.cells.lookup x=some c) (hv:v.ok (some u))
  (h:∀ s',St B led' s'→Q () s') (hk:env.scope.kind=.function) (hl:env.kindOf x=some .cell):wpAny (model B.prog B.w) A (storeName env x u) Q E s:=by
 obtain ⟨o,ho,u0,hd,ok⟩:=H.get hu.mem
 refine wpAny_storeName_cell hk hl hc ⟨o,ho,hd⟩ fun h' ⟨o',ho',hd'⟩ hs=>h _ ?_
 exact H.change hu hs.extBut ho' ⟨_,hd',hv⟩
noncomputable def cellLed (L:Addr) (cl:List (Str×Nat×VS)):Led:=cl.map fun c=>(L+1+c.2.1,.cell c.2.2)
theorem call0C {f:Addr} {args:List Value} {binds:List (Str×Value)} {l:List (Str×VS)} {cl:List (Str×Nat×VS)} {name qual:Str} {params:Arguments} {body:List Stmt} {scope:Scope} {dV kV doc pm cdv ct oc:Value} {an od:Option Addr} {osl:Array (Option Value)}
  {Q:Value→Shared→Prop} (H:St B led s) (R:Rm A envs (n+1)) (X:K.In B.base) (T:TopRead p loose B.mg B.mb B.base)
  (ho:K.lookup f=some ⟨oc,od,.func (fnOf name qual params body scope dV kV doc pm an cdv ct),osl⟩) (hcd:codeIn K cdv qual=true)
  (hbind:bindArgs (fnOf name qual params body scope dV kV doc pm an cdv ct) ⟨args,[]⟩=pure binds)
  (hkind:∀ L,∀ x∈binds,scope.names.lookup x.1=some .local∨(scope.names.lookup x.1=some .cell∧((cellsFrom (L+1) scope.names []).lookup x.1).isSome=true))
  (hl:nsOk l (bindL (fun x=>scope.names.lookup x) binds fun _=>none))
  (hcl:∀ L,∀ c∈cl,(cellsFrom (L+1) scope.names []).lookup c.1=some (L+1+c.2.1)∧c.2.2.ok (bindC (fun x=>scope.names.lookup x) binds (fun _=>none) c.1)) (hnd:(cl.map (·.2.1)).Nodup)
  (hco:scope.isCoroutine=false) (hgen:scope.isGenerator=false) (hk:scope.kind=.function)
  (h:∀ L s' A' E',St B ((L,.ns l)::(cellLed L cl++led)) s'→Rm A' (envX qual scope L f cdv (cellsFrom (L+1) scope.names [])::envs) n→EGood B A' (envX qual scope L f cdv (cellsFrom (L+1) scope.names [])) E'→
   wpAny (model B.prog B.w) A' (execs body (envX qual scope L f cdv (cellsFrom (L+1) scope.names []))) (fun fl s'=>Q (fret fl) s') E' s'):
  codeAny (model B.prog B.w) A (.call (.ref f) ⟨args,[]⟩) (RQ Q E) s:=by
 refine codeAny_call_cells (fd:=fnOf name qual params body scope dV kV doc pm an cdv ct) (body:=body) (binds:=binds) R.room (H.keep _ _ (X _ _ ho)) rfl (T.nolimit.keeps H.keep)
  (codeRec_of (fun a o e=>H.keep _ _ (X a o e)) hcd) rfl hbind rfl (hkind _) (fun s₁ x=>?_) hco hgen hk
 obtain ⟨⟨⟨h',tk,rfl⟩,hns,hkeep,hfresh⟩,hcell,hap,hab⟩:=x
 have hnone:∀ a,s.heap.objs.size≤a→s.heap.get? a=none:=fun a ha=>by
  cases e:s.heap.get? a with
  | none=>rfl
  | some o'=>exact absurd (Heap.lt_size e) (Nat.not_lt.mpr ha)
 have hbase:∀ a,s.heap.objs.size≤a→B.base.get? a=none:=fun a ha=>by
  cases e:B.base.get? a with
  | none=>rfl
  | some o'=>have:=H.keep _ _ e; rw [hnone a ha] at this; cases this
 have hold:∀ a,s.heap.objs.size≤a→∀ p∈led,p.1≠a:=fun a ha p hp e=>by
  obtain ⟨x,hx,_⟩:=H.has p hp
  rw [e,hnone a ha] at hx; cases hx
 have H0:St B led { s with heap:=h',toks:=tk }:=H.grow0 hkeep
 have H1:St B (cellLed s.heap.objs.size cl++led) { s with heap:=h',toks:=tk }:=by
  have hcl':=hcl s.heap.objs.size
  clear h hcl
  induction cl with
  | nil=>exact H0
  | cons c cl ih=>
   simp only [List.map_cons,List.nodup_cons] at hnd
   have ih:=ih hnd.2 fun x hx=>hcl' x (.tail _ hx)
   obtain ⟨e1,e2⟩:=hcl' c (.head _)
   obtain ⟨o,ho',hd⟩:=hcell _ _ e1
   refine ih.add (fun q hq=>?_) (hbase _ (by exact far [_,_] [] (.a Z0 (.p (.p Z0 (.n 1)) Z1)) [] [1] fz rfl)) (by have:=H.size_big; show 400<s.heap.objs.size+1+c.2.1; exact far [_,_] [] (.b (.n 400) (.p (.p Z0 (.n 1)) Z1)) [.b (.n 400) Z0] [1,1] (fm this fz) rfl) ho' ⟨_,hd,e2⟩
   rcases List.mem_append.mp hq with hq | hq
   ·obtain ⟨z,hz,rfl⟩:=List.mem_map.mp hq
    intro e
    have:z.2.1=c.2.1:=by
     have e':s.heap.objs.size+1+z.2.1=s.heap.objs.size+1+c.2.1:=e
     exact Nat.le_antisymm (far [_,_,_] [] (.a Z0 Z1) [.c (.p (.p Z2 (.n 1)) Z0) (.p (.p Z2 (.n 1)) Z1)] [1,1] (fm e' fz) rfl) (far [_,_,_] [] (.a Z0 Z1) [.c (.p (.p Z2 (.n 1)) Z1) (.p (.p Z2 (.n 1)) Z0)] [1,-1] (fm e' fz) rfl)
    exact hnd.1 (this ▸ List.mem_map_of_mem (f:=(·.2.1)) hz)
   ·exact hold _ (by exact far [_,_] [] (.a Z0 (.p (.p Z0 (.n 1)) Z1)) [] [1] fz rfl) q hq
 obtain ⟨o,ho',hok⟩:=ns_ok hns hl
 have H2:St B ((s.heap.objs.size,.ns l)::(cellLed s.heap.objs.size cl++led)) { s with heap:=h',toks:=tk }:=by
  refine H1.add (fun q hq=>?_) (hbase _ (Nat.le_refl _)) H.size_big ho' hok
  rcases List.mem_append.mp hq with hq | hq
  ·obtain ⟨z,hz,rfl⟩:=List.mem_map.mp hq
   intro e
   have e':s.heap.objs.size+1+z.2.1=s.heap.objs.size:=e
   lia
  ·exact hold _ (Nat.le_refl _) q hq
 have R':=R.deeper (envX qual scope s.heap.objs.size f cdv (cellsFrom (s.heap.objs.size+1) scope.names []))
 exact wpAny_mono (h _ _ _ (fun _ _=>False) H2 R' (eGood_false _ _ _)) (fun fl s' q=>q) fun v s' q=>q.elim
noncomputable def CTest (B:Bs) (A:Around) (cenv:Env) (ifs:List Expr) (P:Bool→Shared→Prop) (s:Shared):Prop:=
 wpAny (model B.prog B.w) A (forIn ifs true fun c r=>if r=true then do let ok ← isTrue c cenv (eval c cenv); pure (ForInStep.yield ok) else pure (ForInStep.yield r)) P (fun _ _=>False) s
theorem codeAny_compLoop_testsT {elt target iter:Expr} {ifs:List Expr} {scope:Scope} {pos:Pos} {it acc:Value} {R:Result→Shared→Prop} (I:Nat→Shared→Prop)
  (turn:∀ n s,I n s→wpAny (model B.prog B.w) A (pyNext it) (fun r s₁=>match r with
   | none=>R (.ok .next) s₁
   | some v=>wpAny (model B.prog B.w) A (letOwnedTupleGo target it v) (fun _ s₁=>wpAny (model B.prog B.w) A (assign target env v) (fun _ s₂=>
     CTest B A env ifs (fun ok s₃=>
      if ok=true then wpAny (model B.prog B.w) A (eval elt env) (fun x s₄=>
       wpAny (model B.prog B.w) A (call (.builtin "list.append") [acc,x]) (fun _ s₅=>∃ m,m<n∧I m s₅) (fun _ _=>False) s₄) (fun _ _=>False) s₃
      else ∃ m,m<n∧I m s₃) s₂) (fun _ _=>False) s₁) (fun _ _=>False) s₁) (fun _ _=>False) s)
  (n:Nat) (h:I n s):
  codeAny (model B.prog B.w) A (.compLoop (.ListComp elt [⟨target,iter,ifs,0⟩] scope pos) 0 it acc env) R s:=by
 refine codeAny_loop rfl I (fun n s hI=>?_) n h
 show wpAny _ A ((compTurn (.ListComp elt [⟨target,iter,ifs,0⟩] scope pos) 0 it acc env).onRaise (fun x=>do noteFrame x env; theTreesLotGoes x)) _ _ s
 refine wpAny_noted ?_
 rw [compTurn_list]
 refine wpAny_bind (wpAny_standAt (wpAny_bind (wpAny_mono (turn n s hI) (fun r s₁ h₁=>?_) fun _ _ x=>x.elim)))
 cases r with
 | none=>exact wpAny_pure h₁
 | some v=>
  refine wpAny_bind (wpAny_mono h₁ (fun _ s₁ h₁=>?_) fun _ _ x=>x.elim)
  refine wpAny_bind (wpAny_mono h₁ (fun _ s₂ h₂=>wpAny_bind (wpAny_mono h₂ (fun ok s₃ h₃=>?_) fun _ _ x=>x.elim)) fun _ _ x=>x.elim)
  cases ok with
  | false=>
   rw [if_neg (by decide)] at h₃
   exact wpAny_pure ⟨rfl,h₃⟩
  | true=>
   rw [if_pos rfl] at h₃
   exact wpAny_bind (wpAny_bind (wpAny_mono h₃ (fun x s₄ h₄=>wpAny_bind (wpAny_mono h₄ (fun _ s₅ h₅=>wpAny_pure (wpAny_pure ⟨rfl,h₅⟩)) fun _ _ x=>x.elim)) fun _ _ x=>x.elim))
noncomputable def CompRest (B:Bs) (A:Around) (env:Env) (scope:Scope) (cl:List (Str×Addr)) (elt target iter:Expr) (ifs:List Expr) (pos:Pos) (Q E:Value→Shared→Prop) (it:Value) (s:Shared):Prop:=
 wpAny (model B.prog B.w) A (newList []) (fun acc s₃=>wpAny (model B.prog B.w) A (newFunctionEnv scope env.globals cl [] env.qual none .none (some env)) (fun cenv s₄=>
   codeAny (model B.prog B.w) A (.compStart (.ListComp elt [⟨target,iter,ifs,0⟩] scope pos) 0 it acc { cenv with scope:=relabel scope env }) (compPost (model B.prog B.w) A E none Q acc cenv.locals) s₄) E s₃) E s
theorem comp_ {elt target iter:Expr} {ifs:List Expr} {scope:Scope} {pos:Pos} {Q:Value→Shared→Prop} (cl:List (Str×Addr)) (hclos:closureFor scope env=pure cl) (hkind:scope.kind=.function)
  (hnames:∀ y∈scope.names,y.2=.local→scope.names.lookup y.1=some .local) (hs:∀ x,foldedSetIterable iter env x=pure x)
  (h:wpAny (model B.prog B.w) A (eval iter env) (fun x s₁=>wpAny (model B.prog B.w) A (pyIter x) (CompRest B A env scope cl elt target iter ifs pos Q E) E s₁) E s):
  wpAny (model B.prog B.w) A (eval (.ListComp elt [⟨target,iter,ifs,0⟩] scope pos) env) Q E s:=by
 rw [eval_ListComp]
 exact wpAny_comprehension_free (use:=none) rfl hs hclos hkind hnames h
theorem ct_nil {cenv:Env} {P:Bool→Shared→Prop} (h:P true s):CTest B A cenv [] P s:=wpAny_tests_nil h
theorem ct_one {cenv:Env} {c:Expr} {P:Bool→Shared→Prop} (h:wpAny (model B.prog B.w) A (isTrue c cenv (eval c cenv)) P (fun _ _=>False) s):CTest B A cenv [c] P s:=wpAny_tests_one h
theorem nsOk_any {l:List (Str×VS)} {m:Str→Option Value} {l0:List (Str×VS)} (h:nsOk l m) (e:l.map (·.1)=l0.map (·.1)) (h0:∀ p∈l0,p.2=.any):nsOk l0 m:=
 ⟨fun p hp=>by rw [h0 p hp]; trivial,e ▸ h.nodup,fun x hx=>h.only x (by rw [e]; exact hx)⟩
theorem comp_rest {elt target iter:Expr} {ifs:List Expr} {scope:Scope} {cl:List (Str×Addr)} {pos:Pos} {Q:Value→Shared→Prop} {ia:Addr} {led₀:Led} (I:Itr B) (hh:A.handled=none)
  (H:St B ((ia,I.at_ 0)::led₀) s) (l0:List (Str×VS)) (hl0:∀ p∈l0,p.2=.any) (hnd:(l0.map (·.1)).Nodup) (hcell:∀ y∈scope.names,y.2≠.cell) (hkind:scope.kind=.function)
  (hself:∀ (s:Shared) (E':Value→Shared→Prop) (Q':Value→Shared→Prop) led,St B ((ia,I.at_ 0)::led) s→Q' (.ref ia) s→wpAny (model B.prog B.w) A (pyIter (.ref ia)) Q' E' s)
  (ht:∀ i led s v (Q:Unit→Shared→Prop) (E:Value→Shared→Prop),(I.item i).ok (some v)→St B ((ia,I.at_ (i+1))::led) s→Q () s→wpAny (model B.prog B.w) A (letOwnedTupleGo target (.ref ia) v) Q E s)
  (J:Nat→List VS→Led→Prop) (h0:J 0 [] led₀) (hs:∀ i vs led,J i vs led→∀ q,I.serves (q++led)) (hz:∀ i vs led,J i vs led→vs.length≤1000000)
  (turn:∀ i vs led C D s,i<I.n→J i vs led→St B ((C,.ns l0)::(ia,I.at_ (i+1))::(D,.lst vs)::led) s→
   (I.item i).all fun v=>wpAny (model B.prog B.w) A (assign target (compEnvC scope cl C env) v) (fun _ s₂=>CTest B A (compEnvC scope cl C env) ifs (fun ok s₃=>
    if ok=true then wpAny (model B.prog B.w) A (eval elt (compEnvC scope cl C env)) (fun x s₄=>∃ v led' l',v.ok (some x)∧l'.map (·.1)=l0.map (·.1)∧J (i+1) (vs++[v]) led'∧St B ((C,.ns l')::(ia,I.at_ (i+1))::(D,.lst vs)::led') s₄) (fun _ _=>False) s₃
    else ∃ led' l',l'.map (·.1)=l0.map (·.1)∧J (i+1) vs led'∧St B ((C,.ns l')::(ia,I.at_ (i+1))::(D,.lst vs)::led') s₃) s₂) (fun _ _=>False) s)
  (done:∀ vs led D s,J I.n vs led→St B ((D,.lst vs)::led) s→Q (.ref D) s):CompRest B A env scope cl elt target iter ifs pos Q E (.ref ia) s:=by
 unfold CompRest
 refine l_new (vs:=[]) H trivial (by simp) fun D s₁ H₁=>?_
 refine wpAny_newFunctionEnv hcell (by intro y hy; simp at hy) (fun h₁ hns₁ hsb₁=>?_) hkind
 have H₂:St B ((s₁.heap.objs.size,.ns l0)::(D,.lst [])::(ia,I.at_ 0)::led₀) { s₁ with heap:=h₁,toks:=s₁.toks+([]:List (Str×Value)).length }:=by
  obtain ⟨o,ho,hok⟩:=ns_ok (l:=l0) hns₁ ⟨fun p hp=>by rw [hl0 p hp]; trivial,hnd,fun x _=>rfl⟩
  exact H₁.grow (fun b x e=>hsb₁.extBut b x (fun q=>by rw [q,size_none] at e; cases e) (Heap.get?_push_of_some _ e)) (size_none _) rfl ho hok
 generalize hC:s₁.heap.objs.size=C at *
 have H₃:St B ((C,.ns l0)::(ia,I.at_ 0)::(D,.lst [])::led₀) { s₁ with heap:=h₁,toks:=s₁.toks+([]:List (Str×Value)).length }:=H₂.perm (List.Perm.cons _ (.swap ..))
 generalize ({ s₁ with heap:=h₁,toks:=s₁.toks+([]:List (Str×Value)).length }:Shared)=s₂ at *
 have loop:codeAny (model B.prog B.w) A (.compLoop (.ListComp elt [⟨target,iter,ifs,0⟩] scope pos) 0 (.ref ia) (.ref D) (compEnvC scope cl C env)) (compPost (model B.prog B.w) A E none Q (.ref D) C) s₂:=by
  refine codeAny_compLoop_testsT (fun k s=>∃ i vs led l,i≤I.n∧k=I.n-i∧J i vs led∧l.map (·.1)=l0.map (·.1)∧St B ((C,.ns l)::(ia,I.at_ i)::(D,.lst vs)::led) s) ?_ (I.n-0) ⟨0,[],led₀,l0,Nat.zero_le _,rfl,h0,rfl,H₃⟩
  rintro k s ⟨i,vs,led,l,hi,rfl,hJ,hl,H⟩
  have H':St B ((C,.ns l0)::(ia,I.at_ i)::(D,.lst vs)::led) s:=by
   obtain ⟨oC,hoC,es,nn,q1,q2,q3⟩:=H.get (.head _)
   refine H.recast .head fun ob hob=>?_
   rw [hoC] at hob; cases hob
   exact ⟨es,nn,q1,q2,nsOk_any q3 hl hl0⟩
  have Hp:St B ((ia,I.at_ i)::(C,.ns l0)::(D,.lst vs)::led) s:=H'.perm (.swap ..)
  rcases Nat.lt_or_ge i I.n with hlt | hge
  ·refine I.next A ia i _ s _ _ hh Hp (hs i vs led hJ [_,_]) hlt fun s' Hn=>?_
   have Hn':St B ((C,.ns l0)::(ia,I.at_ (i+1))::(D,.lst vs)::led) s':=Hn.perm (.swap ..)
   refine VS.all_mono2 (turn i vs led C D s' hlt hJ Hn') fun v hv q=>?_
   refine ht i _ s' v _ _ hv Hn ?_
   refine wpAny_mono q (fun _ s₂ q₂=>wpAny_mono q₂ (fun ok s₃ q₃=>?_) fun _ _ x=>x.elim) fun _ _ x=>x.elim
   cases ok with
   | true=>
    rw [if_pos rfl] at q₃ ⊢
    refine wpAny_mono q₃ (fun x s₄ q₄=>?_) fun _ _ x=>x.elim
    obtain ⟨v,led',l',hv',hl',hJ',H4⟩:=q₄
    refine l_append H4 (.tail (.tail .head)) (hz i vs led hJ) hv' fun s₅ H5=>?_
    exact ⟨I.n-(i+1),by exact far [_,_,_,_] [] (.b Z0 Z1) [.a Z2 (.p Z1 Z3),.c (.p Z0 (.p Z3 (.n 1))) Z2] [1,1,1] (fm (ns1 _ _) (fm (ns2 (far [_,_] [] (.a (.p Z0 (.n 1)) Z1) [.b Z0 Z1] [1,1] (fm hlt fz) rfl)) fz)) rfl,i+1,_,led',l',hlt,rfl,hJ',hl',H5⟩
   | false=>
    rw [if_neg (by decide)] at q₃ ⊢
    obtain ⟨led',l',hl',hJ',H4⟩:=q₃
    exact ⟨I.n-(i+1),by exact far [_,_,_,_] [] (.b Z0 Z1) [.a Z2 (.p Z1 Z3),.c (.p Z0 (.p Z3 (.n 1))) Z2] [1,1,1] (fm (ns1 _ _) (fm (ns2 (far [_,_] [] (.a (.p Z0 (.n 1)) Z1) [.b Z0 Z1] [1,1] (fm hlt fz) rfl)) fz)) rfl,i+1,_,led',l',hlt,rfl,hJ',hl',H4⟩
  ·obtain rfl:i=I.n:=Nat.le_antisymm hi hge
   refine I.stop A ia _ _ s _ _ hh Hp (hs _ vs led hJ [_,_]) rfl fun s' Hs=>?_
   obtain ⟨m,hm,_⟩:=Hs.ns (.head _)
   exact ⟨m,hm,fun h' hsb=>done vs led D _ hJ (Hs.lose (t:=s'.toks) hsb.extBut)⟩
 exact codeAny_compStart_list loop (hself _ _ _ _ (H₃.perm (.swap ..)) loop)
end
end Mine
namespace Mine
open PySem PySem.W PyProof.Rows PySem.Spec PySem.Calls
section
variable {B:Bs} {A:Around} {led led':Led} {s:Shared} {E:Value→Shared→Prop} {env:Env} {K:Frag} {p:Program} {loose:List Str} {envs:List Env} {n:Nat}
noncomputable def CompRestU (B:Bs) (A:Around) (env:Env) (y:Str) (py:Pos) (scope:Scope) (cl:List (Str×Addr)) (elt target iter:Expr) (ifs:List Expr) (pos:Pos) (Q:Shared→Prop) (E:Value→Shared→Prop) (it:Value) (s:Shared):Prop:=
 wpAny (model B.prog B.w) A (newList []) (fun acc s₃=>wpAny (model B.prog B.w) A (newFunctionEnv scope env.globals cl [] env.qual none .none (some env)) (fun cenv s₄=>
   codeAny (model B.prog B.w) A (.compStart (.ListComp elt [⟨target,iter,ifs,0⟩] scope pos) 0 it acc { cenv with scope:=relabel scope env }) (compPost (model B.prog B.w) A E (some (assign (.Name y py) env)) (fun _ s'=>Q s') acc cenv.locals) s₄) E s₃) E s
theorem compU_ {elt target iter:Expr} {y:Str} {py:Pos} {ifs:List Expr} {scope:Scope} {pos spos:Pos} {Q:Flow→Shared→Prop} (cl:List (Str×Addr))
  (hsw:swapsWith (.ListComp elt [⟨target,iter,ifs,0⟩] scope pos) (some (.Name y py)) spos.line env=pure true) (hclos:closureFor scope env=pure cl) (hkind:scope.kind=.function)
  (hnames:∀ y∈scope.names,y.2=.local→scope.names.lookup y.1=some .local) (hs:∀ x,foldedSetIterable iter env x=pure x)
  (h:wpAny (model B.prog B.w) A (eval iter env) (fun x s₁=>wpAny (model B.prog B.w) A (pyIter x) (CompRestU B A env y py scope cl elt target iter ifs pos (Q .next) E) E s₁) E s):
  wpAny (model B.prog B.w) A (exec (.Assign [.Name y py] (.ListComp elt [⟨target,iter,ifs,0⟩] scope pos) spos) env) Q E s:=by
 rw [exec_Assign_Name_used _ _ _ _ hsw]
 refine wpAny_bind (wpAny_standAt (wpAny_bind ?_))
 show wpAny _ A (do let _ ← comprehension (.ListComp elt [⟨target,iter,ifs,0⟩] scope pos) scope env _ (newList []) false (eval iter env) (some (assign (.Name y py) env))) _ _ s
 exact wpAny_bind (wpAny_mono (wpAny_comprehension_free (use:=some (assign (.Name y py) env)) (Q:=fun _ s'=>Q .next s') rfl hs hclos hkind hnames h) (fun _ s' hq=>wpAny_pure (wpAny_pure hq)) fun _ _ e=>e)
theorem compU_rest {py:Pos} {y:Str} {elt target iter:Expr} {ifs:List Expr} {scope:Scope} {cl:List (Str×Addr)} {pos:Pos} {Q:Shared→Prop} {ia:Addr} {led₀:Led} (I:Itr B) (hh:A.handled=none)
  (H:St B ((ia,I.at_ 0)::led₀) s) (l0:List (Str×VS)) (hl0:∀ p∈l0,p.2=.any) (hnd:(l0.map (·.1)).Nodup) (hcell:∀ y∈scope.names,y.2≠.cell) (hkind:scope.kind=.function)
  (hself:∀ (s:Shared) (E':Value→Shared→Prop) (Q':Value→Shared→Prop) led,St B ((ia,I.at_ 0)::led) s→Q' (.ref ia) s→wpAny (model B.prog B.w) A (pyIter (.ref ia)) Q' E' s)
  (ht:∀ i led s v (Q:Unit→Shared→Prop) (E:Value→Shared→Prop),(I.item i).ok (some v)→St B ((ia,I.at_ (i+1))::led) s→Q () s→wpAny (model B.prog B.w) A (letOwnedTupleGo target (.ref ia) v) Q E s)
  (J:Nat→List VS→Led→Prop) (h0:J 0 [] led₀) (hs:∀ i vs led,J i vs led→∀ q,I.serves (q++led)) (hz:∀ i vs led,J i vs led→vs.length≤1000000)
  (turn:∀ i vs led C D s,i<I.n→J i vs led→St B ((C,.ns l0)::(ia,I.at_ (i+1))::(D,.lst vs)::led) s→
   (I.item i).all fun v=>wpAny (model B.prog B.w) A (assign target (compEnvC scope cl C env) v) (fun _ s₂=>CTest B A (compEnvC scope cl C env) ifs (fun ok s₃=>
    if ok=true then wpAny (model B.prog B.w) A (eval elt (compEnvC scope cl C env)) (fun x s₄=>∃ v led' l',v.ok (some x)∧l'.map (·.1)=l0.map (·.1)∧J (i+1) (vs++[v]) led'∧St B ((C,.ns l')::(ia,I.at_ (i+1))::(D,.lst vs)::led') s₄) (fun _ _=>False) s₃
    else ∃ led' l',l'.map (·.1)=l0.map (·.1)∧J (i+1) vs led'∧St B ((C,.ns l')::(ia,I.at_ (i+1))::(D,.lst vs)::led') s₃) s₂) (fun _ _=>False) s)
  (done:∀ vs led C D s,J I.n vs led→St B ((C,.ns l0)::(D,.lst vs)::led) s→wpAny (model B.prog B.w) A (assign (.Name y py) env (.ref D)) (fun _ s'=>∃ led',St B ((C,.ns l0)::led') s'∧∀ s'',St B led' s''→Q s'') E s):CompRestU B A env y py scope cl elt target iter ifs pos Q E (.ref ia) s:=by
 unfold CompRestU
 refine l_new (vs:=[]) H trivial (by simp) fun D s₁ H₁=>?_
 refine wpAny_newFunctionEnv hcell (by intro y hy; simp at hy) (fun h₁ hns₁ hsb₁=>?_) hkind
 have H₂:St B ((s₁.heap.objs.size,.ns l0)::(D,.lst [])::(ia,I.at_ 0)::led₀) { s₁ with heap:=h₁,toks:=s₁.toks+([]:List (Str×Value)).length }:=by
  obtain ⟨o,ho,hok⟩:=ns_ok (l:=l0) hns₁ ⟨fun p hp=>by rw [hl0 p hp]; trivial,hnd,fun x _=>rfl⟩
  exact H₁.grow (fun b x e=>hsb₁.extBut b x (fun q=>by rw [q,size_none] at e; cases e) (Heap.get?_push_of_some _ e)) (size_none _) rfl ho hok
 generalize hC:s₁.heap.objs.size=C at *
 have H₃:St B ((C,.ns l0)::(ia,I.at_ 0)::(D,.lst [])::led₀) { s₁ with heap:=h₁,toks:=s₁.toks+([]:List (Str×Value)).length }:=H₂.perm (List.Perm.cons _ (.swap ..))
 generalize ({ s₁ with heap:=h₁,toks:=s₁.toks+([]:List (Str×Value)).length }:Shared)=s₂ at *
 have loop:codeAny (model B.prog B.w) A (.compLoop (.ListComp elt [⟨target,iter,ifs,0⟩] scope pos) 0 (.ref ia) (.ref D) (compEnvC scope cl C env)) (compPost (model B.prog B.w) A E (some (assign (.Name y py) env)) (fun _ s'=>Q s') (.ref D) C) s₂:=by
  refine codeAny_compLoop_testsT (fun k s=>∃ i vs led l,i≤I.n∧k=I.n-i∧J i vs led∧l.map (·.1)=l0.map (·.1)∧St B ((C,.ns l)::(ia,I.at_ i)::(D,.lst vs)::led) s) ?_ (I.n-0) ⟨0,[],led₀,l0,Nat.zero_le _,rfl,h0,rfl,H₃⟩
  rintro k s ⟨i,vs,led,l,hi,rfl,hJ,hl,H⟩
  have H':St B ((C,.ns l0)::(ia,I.at_ i)::(D,.lst vs)::led) s:=by
   obtain ⟨oC,hoC,es,nn,q1,q2,q3⟩:=H.get (.head _)
   refine H.recast .head fun ob hob=>?_
   rw [hoC] at hob; cases hob
   exact ⟨es,nn,q1,q2,nsOk_any q3 hl hl0⟩
  have Hp:St B ((ia,I.at_ i)::(C,.ns l0)::(D,.lst vs)::led) s:=H'.perm (.swap ..)
  rcases Nat.lt_or_ge i I.n with hlt | hge
  ·refine I.next A ia i _ s _ _ hh Hp (hs i vs led hJ [_,_]) hlt fun s' Hn=>?_
   have Hn':St B ((C,.ns l0)::(ia,I.at_ (i+1))::(D,.lst vs)::led) s':=Hn.perm (.swap ..)
   refine VS.all_mono2 (turn i vs led C D s' hlt hJ Hn') fun v hv q=>?_
   refine ht i _ s' v _ _ hv Hn ?_
   refine wpAny_mono q (fun _ s₂ q₂=>wpAny_mono q₂ (fun ok s₃ q₃=>?_) fun _ _ x=>x.elim) fun _ _ x=>x.elim
   cases ok with
   | true=>
    rw [if_pos rfl] at q₃ ⊢
    refine wpAny_mono q₃ (fun x s₄ q₄=>?_) fun _ _ x=>x.elim
    obtain ⟨v,led',l',hv',hl',hJ',H4⟩:=q₄
    refine l_append H4 (.tail (.tail .head)) (hz i vs led hJ) hv' fun s₅ H5=>?_
    exact ⟨I.n-(i+1),by exact far [_,_,_,_] [] (.b Z0 Z1) [.a Z2 (.p Z1 Z3),.c (.p Z0 (.p Z3 (.n 1))) Z2] [1,1,1] (fm (ns1 _ _) (fm (ns2 (far [_,_] [] (.a (.p Z0 (.n 1)) Z1) [.b Z0 Z1] [1,1] (fm hlt fz) rfl)) fz)) rfl,i+1,_,led',l',hlt,rfl,hJ',hl',H5⟩
   | false=>
    rw [if_neg (by decide)] at q₃ ⊢
    obtain ⟨led',l',hl',hJ',H4⟩:=q₃
    exact ⟨I.n-(i+1),by exact far [_,_,_,_] [] (.b Z0 Z1) [.a Z2 (.p Z1 Z3),.c (.p Z0 (.p Z3 (.n 1))) Z2] [1,1,1] (fm (ns1 _ _) (fm (ns2 (far [_,_] [] (.a (.p Z0 (.n 1)) Z1) [.b Z0 Z1] [1,1] (fm hlt fz) rfl)) fz)) rfl,i+1,_,led',l',hlt,rfl,hJ',hl',H4⟩
  ·obtain rfl:i=I.n:=Nat.le_antisymm hi hge
   refine I.stop A ia _ _ s _ _ hh Hp (hs _ vs led hJ [_,_]) rfl fun s' Hs=>?_
   show wpAny _ A (assign (.Name y py) env (.ref D)) _ _ _
   refine wpAny_mono (done vs led C D s' hJ Hs) (fun _ s3 q=>?_) fun _ _ x=>x
   obtain ⟨led',H3,hq⟩:=q
   obtain ⟨m,hm,_⟩:=H3.ns (.head _)
   exact ⟨m,hm,fun h' hsb=>hq _ (H3.lose (t:=s3.toks) hsb.extBut)⟩
 exact codeAny_compStart_list loop (hself _ _ _ _ (H₃.perm (.swap ..)) loop)
theorem l_sliceB {value:Expr} {upper:Expr} {p pos:Pos} {Q:Value→Shared→Prop}
  (h:wpAny (model B.prog B.w) A (eval value env) (fun o s₁=>wpAny (model B.prog B.w) A (eval upper env) (fun vu s₃=>
   ∃ l vs b t led xs,o=.ref l∧vu=.int b t∧0≤b∧vs.length≤1000000∧St B led s₃∧s₃.heap.IsList l xs∧oks vs xs.toList∧∀ r s',St B ((r,.lst (vs.take b.toNat))::led) s'→Q (.ref r) s') E s₁) E s)
  (ht:∀ o r,letTemporaryGo value o r=pure ()):
  wpAny (model B.prog B.w) A (eval (.Subscript value (.Slice none (some upper) none p) pos) env) Q E s:=by
 refine wpAny_Subscript_list_slice (wpAny_mono h (fun o s₁ h₁=>?_) fun _ _ x=>x) ht
 rw [evalPart_none]
 refine wpAny_pure (wpAny_mono h₁ (fun vu s₃ h₃=>?_) fun _ _ x=>x)
 obtain ⟨l,vs,b,t,led,xs,rfl,rfl,hb,hz,H,hx,hok,hQ⟩:=h₃
 refine ⟨l,xs,none,some b,rfl,hx,by rw [sizeLine_eq,← Array.length_toList,oks_length hok]; exact nA hz rfl,.none,.int _ _,?_⟩
 rw [sl_upto xs b hb]
 have H1:St B led { s₃ with heap:=s₃.heap.push { cls:=.type "slice",data:=.fields #[.none,.int b t,.none] },toks:=s₃.toks }:=H.grow0 fun _ _ e=>Heap.get?_push_of_some _ e
 have H2:=H1.push (t:=s₃.toks) (o:=.lst (vs.take b.toNat)) { cls:=.type "list",data:=.seq (xs.toList.take b.toNat).toArray } ⟨_,_,rfl,oks_take _ hok⟩
 simp only [Heap.size_push] at H2
 exact hQ _ _ H2
theorem l_iadd_ints {l b:Addr} {ns ms:List Int} {Q:Value→Shared→Prop} (H:St B led s) (U:Up l (ilst ns) (ilst (ns++ms)) led led') (hb:(b,ilst ms)∈led) (hz:ns.length+ms.length≤1000000)
  (h:∀ s',St B led' s'→Q (.ref l) s'):wpAny (model B.prog B.w) A (inplaceOp .Add (.ref l) (.ref b)) Q E s:=by
 obtain ⟨xs,n,hx,hok⟩:=H.isL U.mem
 obtain ⟨ys,n2,hy,hok2⟩:=H.isL hb
 have e1:xs.size=ns.length:=by rw [← Array.length_toList,oks_length hok,List.length_map]
 have e2:ys.size=ms.length:=by rw [← Array.length_toList,oks_length hok2,List.length_map]
 have ha:s.TypeIs (.ref l) "list" := ⟨_,hx,rfl⟩
 have hb':s.TypeIs (.ref b) "list" := ⟨_,hy,rfl⟩
 have hfi:fillsInplaceSlot (.type "list") "add" (Operator.Add == .Add)=pure false:=by
  unfold fillsInplaceSlot
  show (typeLookup (.type "list") (dunderI "add") >>= fun fi=>pure (fi.isSome&&!isSeqSlot fi))=pure false
  rw [F.slot_list_iadd.lookup]; rfl
 have hsi:seqSlot? (.type "list") (dunderI "add")=pure (some (.builtin "list.__iadd__")):=by
  unfold seqSlot?
  rw [F.slot_list_iadd.lookup]; rfl
 unfold inplaceOp
 refine wpAny_holding ?_
 refine wpAny_bind (wpAny_typeOf ha (wpAny_bind (wpAny_of_eq hfi ?_)))
 show wpAny _ A (if false=true then _ else _) Q E s
 rw [if_neg Bool.false_ne_true]
 refine wpAny_bind (wpAny_binaryOp1_none (nm := "add") ha hb' noFill_list_add ?_)
 refine wpAny_bind (wpAny_of_eq hsi ?_)
 refine wpAny_bind (wpAny_rule ?_)
 refine call_meets F.slot_list_iadd ha F.entry_list_iadd (F.args_list_iadd_2 _ _) (AutoSeq1.list___iadd___list_list_0 l xs n b ys n2 (by simp [Builtin.List.listTooLong,sizeLine]; lia) (by rw [sizeLine_eq]; exact far [_,_,_] [] (.a Z0 (.n 16777216)) [.a (.p Z1 Z2) (.n 1000000),.c Z0 Z1] [1,1,1] (fm hz (fm e1 fz)) rfl) (by rw [sizeLine_eq]; exact far [_,_,_,_] [] (.a (.p Z0 Z1) (.p (.n 16777216) (.n 1))) [.a (.p Z2 Z3) (.n 1000000),.c Z0 Z2,.c Z1 Z3] [1,1,1,1] (fm hz (fm e1 (fm e2 fz))) rfl)) ⟨hx,hy,?_⟩
 refine h _ (H.change U (Heap.SameBut.update ..).extBut (hx.update _) ⟨_,_,rfl,?_⟩)
 unfold ilst at *
 rw [Array.toList_append,List.map_append]
 exact oks_append hok hok2
end
end Mine
namespace Mine
noncomputable def used (cs:List Int):List Nat:=(List.range cs.length).filter fun i=>decide (cs.getD i 0>0)
noncomputable def krf (M:Nat) (lens:List Int) (s:Nat):Nat:=2 ^ (M-(lens.getD s 0).toNat)
noncomputable def kr (M:Nat) (lens:List Int) (t:List Nat):Nat:=(t.map (krf M lens)).sum
structure TreeOk (M:Nat) (lens:List Int) (t:List Nat):Prop where
 ne:0<t.length
 bd:∀ s∈t,0≤lens.getD s 0∧lens.getD s 0+1≤t.length
 kr:kr M lens t=2 ^ M
structure HInv (cs lens:List Int) (fs:List (List Nat)):Prop where
 len:lens.length=cs.length
 perm:fs.flatten.Perm (used cs)
 zero:∀ i,i ∉ used cs→lens.getD i 0=0
 tree:∀ t∈fs,TreeOk cs.length lens t
theorem used_nodup (cs:List Int):(used cs).Nodup:=List.nodup_range.filter _
theorem used_lt {cs:List Int} {i:Nat} (h:i∈used cs):i<cs.length:=List.mem_range.mp (List.mem_filter.mp h).1
theorem used_len (cs:List Int):(used cs).length≤cs.length:=by
 have:=List.length_filter_le (fun i=>decide (cs.getD i 0>0)) (List.range cs.length)
 rw [List.length_range] at this
 exact this
theorem getD_replicate0 (n i:Nat):(List.replicate n (0:Int)).getD i 0=0:=by
 rw [List.getD_eq_getElem?_getD,List.getElem?_replicate]
 split <;> rfl
theorem hinv_init (cs:List Int):HInv cs (List.replicate cs.length 0) ((used cs).map fun s=>[s]) where
 len:=by simp
 perm:=by
  have:∀ l:List Nat,(l.map fun s=>[s]).flatten=l:=by
   intro l
   induction l with
   | nil=>rfl
   | cons a l ih=>simp [ih]
  rw [this]
 zero:=fun i _=>getD_replicate0 _ _
 tree:=fun t ht=>by
  obtain ⟨s,hs,rfl⟩:=List.mem_map.mp ht
  refine ⟨by simp,fun s' hs'=>?_,?_⟩
  ·rw [getD_replicate0]; simp
  ·simp only [kr,List.map_cons,List.map_nil,List.sum_cons,List.sum_nil,krf,getD_replicate0]
   simp
noncomputable def bump (lens:List Int) (t:List Nat):List Int:=t.foldl (fun l s=>l.set s (l.getD s 0+1)) lens
theorem bump_length (t:List Nat):∀ lens:List Int,(bump lens t).length=lens.length:=by
 induction t with
 | nil=>intro _; rfl
 | cons a t ih=>intro lens; show (bump (lens.set a (lens.getD a 0+1)) t).length=_; rw [ih]; simp
theorem getD_set {l:List Int} {i j:Nat} {v:Int} (h:i<l.length):(l.set i v).getD j 0=if j=i then v else l.getD j 0:=by
 rw [List.getD_eq_getElem?_getD,List.getD_eq_getElem?_getD,List.getElem?_set]
 by_cases e:i=j
 ·subst e; simp [h]
 ·rw [if_neg e,if_neg (fun q=>e q.symm)]
theorem bump_get:∀ (t:List Nat) (lens:List Int),t.Nodup→(∀ s∈t,s<lens.length)→∀ i,(bump lens t).getD i 0=lens.getD i 0+(if i∈t then 1 else 0)
 | [],lens,_,_,i=>by simp [bump]
 | a::t,lens,hn,hl,i=>by
  have hn':=List.nodup_cons.mp hn
  show (bump (lens.set a (lens.getD a 0+1)) t).getD i 0=_
  rw [bump_get t _ hn'.2 (fun s hs=>by rw [List.length_set]; exact hl s (.tail _ hs)),getD_set (hl a (.head _))]
  by_cases e:i=a
  ·subst e
   rw [if_pos rfl,if_neg hn'.1,if_pos (.head _)]; lia
  ·rw [if_neg e]
   by_cases e2:i∈t
   ·rw [if_pos e2,if_pos (.tail _ e2)]
   ·rw [if_neg e2,if_neg (by simp [e,e2])]
theorem kr_append (M:Nat) (lens:List Int) (t u:List Nat):kr M lens (t++u)=kr M lens t+kr M lens u:=by simp [kr]
theorem kr_congr {M:Nat} {lens lens':List Int} {t:List Nat} (h:∀ s∈t,lens.getD s 0=lens'.getD s 0):kr M lens t=kr M lens' t:=by
 unfold kr
 congr 1
 exact List.map_congr_left fun s hs=>by unfold krf; rw [h s hs]
theorem kr_bump {M:Nat} {lens lens':List Int}:∀ {t:List Nat},(∀ s∈t,lens'.getD s 0=lens.getD s 0+1∧0≤lens.getD s 0∧lens.getD s 0+1≤M)→2*kr M lens' t=kr M lens t
 | [],_=>rfl
 | a::t,h=>by
  have ih:=kr_bump (M:=M) (lens:=lens) (lens':=lens') (t:=t) fun s hs=>h s (.tail _ hs)
  obtain ⟨h1,h2,h3⟩:=h a (.head _)
  have e:2*krf M lens' a=krf M lens a:=by
   unfold krf
   rw [h1]
   have:M-(lens.getD a 0).toNat=(M-(lens.getD a 0+1).toNat)+1:=by exact Nat.le_antisymm (far [_,_,_,_,_] [_] (.a Z0 (.p Z1 (.n 1))) [.d Y0 X2,.a Z3 (.p Z1 Z4),.c (.p Z0 Z2) Z3,.f X4 (.q Y0 (.z 1))] [1,1,1,1,1] (fm (it1 _) (fm (ns1 _ _) (fm (ns2 (far [_,_] [_] (.a Z0 Z1) [.d (.q Y0 (.z 1)) X1,.f X0 Y0] [1,1,1] (fm h3 (fm (it2 (far [] [_] (.d (.z 0) Y0) [.d (.z 0) Y0] [1,1] (fm h2 fz) rfl)) fz)) rfl)) (fm (it2 (far [] [_] (.d (.z 0) (.q Y0 (.z 1))) [.d (.z 0) Y0] [1,1] (fm h2 fz) rfl)) fz)))) rfl) (far [_,_,_,_,_] [_] (.a (.p Z0 (.n 1)) Z1) [.d (.q Y0 (.z 1)) X2,.a Z3 (.p Z1 Z4),.f X4 Y0,.c (.p Z0 Z2) Z3] [1,1,1,1,1] (fm (it1 _) (fm (ns1 _ _) (fm (it2 (far [] [_] (.d (.z 0) Y0) [.d (.z 0) Y0] [1,1] (fm h2 fz) rfl)) (fm (ns2 (far [_,_] [_] (.a Z0 Z1) [.d (.q Y0 (.z 1)) X1,.f X0 (.q Y0 (.z 1))] [1,1,1] (fm h3 (fm (it2 (far [] [_] (.d (.z 0) (.q Y0 (.z 1))) [.d (.z 0) Y0] [1,1] (fm h2 fz) rfl)) fz)) rfl)) fz)))) rfl)
   rw [this,Nat.pow_succ,Nat.mul_comm]
  show 2*(krf M lens' a+kr M lens' t)=krf M lens a+kr M lens t
  exact Nat.le_antisymm (far [_,_,_,_] [] (.a (.m 2 (.p Z0 Z1)) (.p Z2 Z3)) [.c (.m 2 Z0) Z2,.c (.m 2 Z1) Z3] [1,1,1] (fm e (fm ih fz)) rfl) (far [_,_,_,_] [] (.a (.p Z0 Z1) (.m 2 (.p Z2 Z3))) [.c (.m 2 Z2) Z0,.c (.m 2 Z3) Z1] [1,-1,-1] (fm e (fm ih fz)) rfl)
theorem hinv_merge {cs lens:List Int} {fs rest:List (List Nat)} {t1 t2:List Nat} (h:HInv cs lens fs) (hp:fs.Perm (t1::t2::rest)):HInv cs (bump lens (t1++t2)) (rest++[t1++t2]):=by
 have hfl:(t1::t2::rest).flatten.Perm (used cs):=hp.symm.flatten.trans h.perm
 have hnd:(t1++(t2++rest.flatten)).Nodup:=by
  have:=hfl.symm.nodup (used_nodup cs)
  simpa using this
 have hnd12:(t1++t2).Nodup:=by
  rw [← List.append_assoc] at hnd
  exact (List.nodup_append.mp hnd).1
 have hm1:t1∈fs:=hp.mem_iff.mpr (.head _)
 have hm2:t2∈fs:=hp.mem_iff.mpr (.tail _ (.head _))
 have hu:∀ s∈t1++t2,s∈used cs:=fun s hs=>by
  refine hfl.mem_iff.mp ?_
  rcases List.mem_append.mp hs with hs | hs <;> simp [hs]
 have hlt:∀ s∈t1++t2,s<lens.length:=fun s hs=>by rw [h.len]; exact used_lt (hu s hs)
 have hg:=bump_get (t1++t2) lens hnd12 hlt
 have hlen12:(t1++t2).length≤cs.length:=by
  have h1:((t1::t2::rest).flatten).length=(used cs).length:=hfl.length_eq
  have h2:=used_len cs
  simp at h1 ⊢
  exact far [_,_,_,_,_] [] (.a (.p Z0 Z1) Z2) [.a Z3 Z2,.c (.p Z0 (.p Z1 Z4)) Z3] [1,1,1] (fm h2 (fm h1 fz)) rfl
 have T1:=h.tree t1 hm1
 have T2:=h.tree t2 hm2
 refine ⟨by rw [bump_length]; exact h.len,?_,fun i hi=>?_,fun t ht=>?_⟩
 ·refine List.Perm.trans ?_ hfl
  simp only [List.flatten_append,List.flatten_cons,List.flatten_nil,List.append_nil]
  rw [← List.append_assoc t1 t2]
  exact List.perm_append_comm
 ·rw [hg,if_neg fun q=>hi (hu i q),h.zero i hi]; rfl
 ·rcases List.mem_append.mp ht with ht | ht
  ·have hmt:t∈fs:=hp.mem_iff.mpr (.tail _ (.tail _ ht))
   have T:=h.tree t hmt
   have hsame:∀ s∈t,lens.getD s 0=(bump lens (t1++t2)).getD s 0:=fun s hs=>by
    rw [hg,if_neg]
    ·lia
    ·intro q
     rw [← List.append_assoc] at hnd
     exact (List.nodup_append.mp hnd).2.2 s q s (List.mem_flatten.mpr ⟨t,ht,hs⟩) rfl
   refine ⟨T.ne,fun s hs=>by rw [← hsame s hs]; exact T.bd s hs,?_⟩
   rw [← kr_congr hsame]; exact T.kr
  ·have et:t=t1++t2:=by simpa using ht
   subst et
   have n1:=T1.ne
   have n2:=T2.ne
   have hall:∀ s∈t1++t2,0≤lens.getD s 0∧lens.getD s 0+2≤(t1++t2).length:=fun s hs=>by
    rw [List.length_append]
    rcases List.mem_append.mp hs with hs | hs
    ·have:=T1.bd s hs; exact ⟨far [] [_] (.d (.z 0) Y0) [.d (.z 0) Y0] [1,1] (fm this.1 fz) rfl,far [_,_] [_] (.d (.q Y0 (.z 2)) (.t (.p Z0 Z1))) [.b (.n 0) Z1,.d (.q Y0 (.z 1)) X0] [1,1,1] (fm n2 (fm this.2 fz)) rfl⟩
    ·have:=T2.bd s hs; exact ⟨far [] [_] (.d (.z 0) Y0) [.d (.z 0) Y0] [1,1] (fm this.1 fz) rfl,far [_,_] [_] (.d (.q Y0 (.z 2)) (.t (.p Z0 Z1))) [.b (.n 0) Z0,.d (.q Y0 (.z 1)) X1] [1,1,1] (fm n1 (fm this.2 fz)) rfl⟩
   refine ⟨by rw [List.length_append]; exact far [_,_] [] (.b (.n 0) (.p Z0 Z1)) [.b (.n 0) Z0,.b (.n 0) Z1] [1,1,1] (fm n1 (fm n2 fz)) rfl,fun s hs=>?_,?_⟩
   ·rw [hg,if_pos hs]
    have:=hall s hs
    exact ⟨far [] [_] (.d (.z 0) (.q Y0 (.z 1))) [.d (.z 0) Y0] [1,1] (fm this.1 fz) rfl,far [_] [_] (.d (.q (.q Y0 (.z 1)) (.z 1)) X0) [.d (.q Y0 (.z 2)) X0] [1,1] (fm this.2 fz) rfl⟩
   ·have e:=kr_bump (M:=cs.length) (lens:=lens) (lens':=bump lens (t1++t2)) (t:=t1++t2) fun s hs=>by
     have:=hall s hs
     exact ⟨by rw [hg,if_pos hs],this.1,by exact far [_,_] [_] (.d (.q Y0 (.z 1)) X0) [.a Z1 Z0,.d (.q Y0 (.z 2)) X1] [1,1,1] (fm hlen12 (fm this.2 fz)) rfl⟩
    rw [kr_append cs.length lens,T1.kr,T2.kr] at e
    exact Nat.le_antisymm (far [_,_] [] (.a Z0 Z1) [.c (.m 2 Z0) (.p Z1 Z1)] [2,1] (fm e fz) rfl) (far [_,_] [] (.a Z0 Z1) [.c (.m 2 Z1) (.p Z0 Z0)] [2,-1] (fm e fz) rfl)
structure Huff (cs lens:List Int):Prop where
 len:lens.length=cs.length
 zero:∀ i,i ∉ used cs→lens.getD i 0=0
 one:∀ s,used cs=[s]→lens.getD s 0=1
 pos:∀ i∈used cs,1≤lens.getD i 0
 bd:∀ i∈used cs,lens.getD i 0≤1∨lens.getD i 0+1≤(used cs).length
 kraft:2≤(used cs).length→kr cs.length lens (used cs)=2 ^ cs.length
theorem kr_perm {M:Nat} {lens:List Int} {t u:List Nat} (h:t.Perm u):kr M lens t=kr M lens u:=(h.map _).sum_nat
theorem kr_one {M:Nat} {lens:List Int} {t:List Nat} {a:Nat} (ha:a∈t) (h2:2≤t.length) (h0:lens.getD a 0=0):2 ^ M<kr M lens t:=by
 have hp:∀ s,0<krf M lens s:=fun s=>Nat.pos_of_ne_zero (by unfold krf; exact Nat.ne_of_gt (Nat.pow_pos (by decide)))
 have hpos:∀ l:List Nat,0<l.length→0<kr M lens l:=by
  intro l hl
  match l,hl with
  | b::l,_=>
   show 0<krf M lens b+kr M lens l
   have:=hp b
   exact far [_,_] [] (.b (.n 0) (.p Z0 Z1)) [.b (.n 0) Z0] [1,1] (fm this fz) rfl
 obtain ⟨l1,l2,rfl⟩:=List.append_of_mem ha
 rw [kr_append]
 have e:kr M lens (a::l2)=krf M lens a+kr M lens l2:=rfl
 have e2:krf M lens a=2 ^ M:=by unfold krf; rw [h0]; rfl
 have h3:0<l1.length∨0<l2.length:=by simp at h2; lia
 rcases h3 with h3 | h3
 ·have:=hpos _ h3; exact far [_,_,_,_,_] [] (.b Z0 (.p Z1 Z2)) [.c Z2 (.p Z3 Z4),.c Z3 Z0,.b (.n 0) Z1] [1,-1,-1,1] (fm e (fm e2 (fm this fz))) rfl
 ·have:=hpos _ h3; exact far [_,_,_,_,_] [] (.b Z0 (.p Z1 Z2)) [.c Z2 (.p Z3 Z4),.c Z3 Z0,.b (.n 0) Z4] [1,-1,-1,1] (fm e (fm e2 (fm this fz))) rfl
theorem huff_many {cs lens:List Int} {t:List Nat} (h:HInv cs lens [t]) (h2:2≤(used cs).length):Huff cs lens:=by
 have hp:t.Perm (used cs):=by have:=h.perm; simpa using this
 have T:=h.tree t (.head _)
 have hl:=hp.length_eq
 refine ⟨h.len,h.zero,fun s hs=>?_,fun i hi=>?_,fun i hi=>?_,fun _=>?_⟩
 ·rw [hs] at h2; simp at h2
 ·have hm:=hp.mem_iff.mpr hi
  have:=T.bd i hm
  rcases Int.lt_or_eq_of_le this.1 with q | q
  ·assumption
  ·have:=kr_one (M:=cs.length) hm (by exact far [_,_] [] (.a (.n 2) Z0) [.a (.n 2) Z1,.c Z0 Z1] [1,1,-1] (fm h2 (fm hl fz)) rfl) q.symm
   rw [T.kr] at this
   exact absurd this (Nat.lt_irrefl _)
 ·have:=T.bd i (hp.mem_iff.mpr hi)
  lia
 ·rw [← kr_perm hp]; exact T.kr
theorem huff_one {cs:List Int} {s:Nat} (h:used cs=[s]):Huff cs ((List.replicate cs.length 0).set s 1):=by
 have hs:s<cs.length:=used_lt (by rw [h]; exact .head _)
 have hg:∀ i,((List.replicate cs.length (0:Int)).set s 1).getD i 0=if i=s then 1 else 0:=fun i=>by
  rw [getD_set (by simpa using hs),getD_replicate0]
 refine ⟨by simp,fun i hi=>?_,fun s' hs'=>?_,fun i hi=>?_,fun i hi=>?_,fun h2=>?_⟩
 ·rw [hg,if_neg]; rw [h] at hi; simpa using hi
 ·rw [hs'] at h; injection h with h; rw [hg,if_pos h]
 ·rw [h] at hi; rw [hg,if_pos (by simpa using hi)]; exact Int.le_refl _
 ·rw [h] at hi; rw [hg,if_pos (by simpa using hi)]; left; exact Int.le_refl _
 ·rw [h] at h2; simp at h2
theorem huff_none {cs:List Int} (h:used cs=[]):Huff cs (List.replicate cs.length 0):=by
 refine ⟨by simp,fun i hi=>getD_replicate0 _ _,fun s' hs'=>?_,fun i hi=>?_,fun i hi=>?_,fun h2=>?_⟩
 ·rw [h] at hs'; cases hs'
 ·rw [h] at hi; cases hi
 ·rw [h] at hi; cases hi
 ·rw [h] at h2; simp at h2
end Mine
namespace Mine
noncomputable def pairs (lens:List Int):List (Int×Int):=(used lens).map fun i=>(lens.getD i 0,(i:Int))
noncomputable def osy (lens:List Int):List (Int×Int):=(pairs lens).mergeSort fun p q=>!plt q p
theorem plt_trans {p q r:Int×Int} (h1:plt p q=true) (h2:plt q r=true):plt p r=true:=by
 simp only [plt,decide_eq_true_eq] at *
 lia
theorem plt_irr (p:Int×Int):plt p p=false:=by
 simp only [plt,decide_eq_false_iff_not]
 lia
theorem plt_tri {p q:Int×Int} (h1:plt p q=false) (h2:plt q p=false):p=q:=by
 obtain ⟨a,b⟩:=p
 obtain ⟨c,d⟩:=q
 simp only [plt,decide_eq_false_iff_not,Prod.mk.injEq] at *
 omega
theorem pairs_nodup (lens:List Int):(pairs lens).Nodup:=by
 unfold pairs List.Nodup
 rw [List.pairwise_map]
 refine (used_nodup lens).imp fun h e=>h ?_
 have:=congrArg Prod.snd e
 simp at this; exact Nat.le_antisymm (far [_,_] [] (.a Z0 Z1) [.f X0 X1] [1,1] (fm this fz) rfl) (far [_,_] [] (.a Z0 Z1) [.f X1 X0] [1,-1] (fm this fz) rfl)
theorem osy_perm (lens:List Int):(osy lens).Perm (pairs lens):=List.mergeSort_perm ..
theorem osy_sorted (lens:List Int):(osy lens).Pairwise fun p q=>plt p q=true:=by
 have h:=List.pairwise_mergeSort (le:=fun p q=>!plt q p) (fun a b c h1 h2=>by
   simp only [Bool.not_eq_true',plt,decide_eq_false_iff_not] at *
   omega) (fun a b=>by
   cases h:plt b a with
   | false=>simp [h]
   | true=>
    have:plt a b=false:=by simp only [plt,decide_eq_true_eq,decide_eq_false_iff_not] at *; lia
    simp [h,this]) (pairs lens)
 have hn:(osy lens).Nodup:=(osy_perm lens).symm.nodup (pairs_nodup lens)
 have h':(osy lens).Pairwise fun p q=>plt q p=false:=h.imp fun {a b} q=>by simpa using q
 refine (List.Pairwise.and h' hn).imp fun {p q} ⟨h1,h2⟩=>?_
 cases e:plt p q with
 | true=>rfl
 | false=>exact absurd (plt_tri e h1) h2
theorem sorted_unique:∀ {l m:List (Int×Int)},l.Perm m→l.Pairwise (fun p q=>plt p q=true)→m.Pairwise (fun p q=>plt p q=true)→l=m
 | [],m,h,_,_=>(List.Perm.nil_eq h)
 | a::l,[],h,_,_=>absurd h.length_eq (by simp)
 | a::l,b::m,h,h1,h2=>by
  have h1':=List.pairwise_cons.mp h1
  have h2':=List.pairwise_cons.mp h2
  have e:a=b:=by
   have ha:a∈b::m:=h.mem_iff.mp (.head _)
   have hb:b∈a::l:=h.mem_iff.mpr (.head _)
   rcases List.mem_cons.mp ha with e | ha
   ·exact e
   ·rcases List.mem_cons.mp hb with e | hb
    ·exact e.symm
    ·have:=plt_trans (h1'.1 b hb) (h2'.1 a ha)
     rw [plt_irr] at this
     cases this
  subst e
  rw [sorted_unique (List.Perm.cons_inv h) h1'.2 h2'.2]
theorem osy_eq {lens:List Int} {ps:List (Int×Int)} (h:ps.Perm (pairs lens)) (h':ps.Pairwise fun p q=>plt p q=true):ps=osy lens:=
 sorted_unique (h.trans (osy_perm lens).symm) h' (osy_sorted lens)
theorem pairs_len (lens:List Int):(pairs lens).length=(used lens).length:=by simp [pairs]
theorem osy_len (lens:List Int):(osy lens).length=(used lens).length:=by rw [(osy_perm lens).length_eq,pairs_len]
theorem osy_mem {lens:List Int} {p:Int×Int} (h:p∈osy lens):∃ i:Nat,i∈used lens∧p=(lens.getD i 0,(i:Int)):=by
 obtain ⟨i,hi,rfl⟩:=List.mem_map.mp ((osy_perm lens).mem_iff.mp h)
 exact ⟨i,hi,rfl⟩
theorem used_pos {lens:List Int} {i:Nat} (h:i∈used lens):0<lens.getD i 0:=by
 have:=(List.mem_filter.mp h).2
 simpa using this
noncomputable def cgo:Int→Int→List (Int×Int)→List (Int×Int×Int)
 | _,_,[]=>[]
 | code,before,(l,s)::r=>(s,code*2 ^ (l-before).toNat,l)::cgo (code*2 ^ (l-before).toNat+1) l r
noncomputable def codes (lens:List Int):List (Int×Int×Int):=cgo 0 0 (osy lens)
noncomputable def ksum (g:Int) (ps:List (Int×Int)):Int:=ps.foldl (fun t p=>t+2 ^ (g-p.1).toNat) 0
noncomputable def complete (lens:List Int):Bool:=
 if (osy lens).length<2 then decide ((osy lens).length=1∧((osy lens).getD 0 (0,0)).1=1)
 else decide (ksum ((osy lens).getD ((osy lens).length-1) (0,0)).1 (osy lens)=2 ^ ((osy lens).getD ((osy lens).length-1) (0,0)).1.toNat)
noncomputable def mxl (cs:List (Int×Int×Int)):Int:=cs.foldl (fun m x=>max m x.2.2) 0
noncomputable def symL (cs:List (Int×Int×Int)):Nat→Int→Int→List Int→Option (Int×List Int)
 | 0,_,_,_=>none
 | _+1,_,_,[]=>none
 | k+1,code,len,b::r=>match cs.find? (fun x=>decide (x.2.1=code*2+b∧x.2.2=len+1)) with
  | some x=>some (x.1,r)
  | none=>symL cs k (code*2+b) (len+1) r
noncomputable def usedP (cs:List Int) (i:Nat):List Nat:=(List.range i).filter fun i=>decide (cs.getD i 0>0)
theorem usedP_succ (cs:List Int) (i:Nat):usedP cs (i+1)=usedP cs i++(if cs.getD i 0>0 then [i] else []):=by
 unfold usedP
 rw [List.range_succ,List.filter_append]
 congr 1
 by_cases h:cs.getD i 0>0
 ·rw [if_pos h,List.filter_cons_of_pos (by simpa using h)]; rfl
 ·rw [if_neg h,List.filter_cons_of_neg (by simpa using h)]; rfl
theorem usedP_len (cs:List Int) (i:Nat):(usedP cs i).length≤i:=by
 have:=List.length_filter_le (fun i=>decide (cs.getD i 0>0)) (List.range i)
 rw [List.length_range] at this
 exact this
end Mine
namespace Mine
open PySem PySem.W PyProof.Rows PySem.Spec PySem.Calls
noncomputable abbrev LW:List Str:=looseW view LL
structure BOk (B:Bs):Prop where
 X:(frag B.w.params).In B.base
 T:TopRead view LW B.mg B.mb B.base
 exc:B.exC=51
section
variable {B:Bs} {A:Around} {led led':Led} {s:Shared} {E:Value→Shared→Prop} {env:Env}
section
variable {pos:Pos} {args:List Expr} {Q:Value→Shared→Prop} {K:Frag}
theorem cwb0 {id:String} (hp:(backTo pos (starEach args env)).any (·.1)=false) (h:wpAny (model B.prog B.w) A (spliced (backTo pos (starEach args env))) (fun vs s₁=>wpAny (model B.prog B.w) A (call (.builtin id) vs) Q E s₁) E s):
  wpAny (model B.prog B.w) A (callWith pos (.builtin id) [] (backTo pos (starEach args env)) []) Q E s:=cw_builtin hp h
theorem cwb1 {id:String} {x:Value} (hp:(backTo pos (starEach args env)).any (·.1)=false) (h:wpAny (model B.prog B.w) A (spliced (backTo pos (starEach args env))) (fun vs s₁=>wpAny (model B.prog B.w) A (call (.builtin id) (x::vs)) Q E s₁) E s):
  wpAny (model B.prog B.w) A (callWith pos (.builtin id) [x] (backTo pos (starEach args env)) []) Q E s:=cw_builtin hp h
theorem cwt0 {id:String} (hp:(backTo pos (starEach args env)).any (·.1)=false) (h:wpAny (model B.prog B.w) A (spliced (backTo pos (starEach args env))) (fun vs s₁=>wpAny (model B.prog B.w) A (call (.type id) vs) Q E s₁) E s):
  wpAny (model B.prog B.w) A (callWith pos (.type id) [] (backTo pos (starEach args env)) []) Q E s:=cw_type hp h
theorem cwr0 {f:Addr} (X:K.In B.base) (hk:keepIn K (.ref f)=true) (hp:(backTo pos (starEach args env)).any (·.1)=false)
  (h:wpAny (model B.prog B.w) A (spliced (backTo pos (starEach args env))) (fun vs s₁=>Then B (wpAny (model B.prog B.w) A (call (.ref f) vs) Q E s₁) s₁) E s):
  wpAny (model B.prog B.w) A (callWith pos (.ref f) [] (backTo pos (starEach args env)) []) Q E s:=cw_ref X hk hp h
theorem cwr1 {f:Addr} {x:Value} (X:K.In B.base) (hk:keepIn K (.ref f)=true) (hp:(backTo pos (starEach args env)).any (·.1)=false)
  (h:wpAny (model B.prog B.w) A (spliced (backTo pos (starEach args env))) (fun vs s₁=>Then B (wpAny (model B.prog B.w) A (call (.ref f) (x::vs)) Q E s₁) s₁) E s):
  wpAny (model B.prog B.w) A (callWith pos (.ref f) [x] (backTo pos (starEach args env)) []) Q E s:=cw_ref X hk hp h
end
theorem Rm.cl64 {A:Around} {envs:List Env} {n:Nat} (h:Rm A envs (n+1)):A.units+64<cLine:=by have:=h.units; show A.units+64<9900; exact far [_,_] [] (.b (.p Z0 (.n 64)) (.n 9900)) [.b (.p (.p Z0 (.m 40 (.p Z1 (.n 1)))) (.n 40)) (.n 9900)] [1,1] (fm this fz) rfl
theorem eqd_int {a b:Int} {t u:Tok} {Q:Value→Shared→Prop} (h:Q (.bool (decide (a=b))) s):wpAny (model B.prog B.w) A (compareOp CmpOp.Eq (.int a t) (.int b u)) Q E s:=by
 refine eq_int ?_
 have e:(a == b)=decide (a=b):=by by_cases c:a=b <;> simp [c]
 rw [e]; exact h
theorem ned_int {a b:Int} {t u:Tok} {Q:Value→Shared→Prop} (h:Q (.bool (decide (a≠b))) s):wpAny (model B.prog B.w) A (compareOp CmpOp.NotEq (.int a t) (.int b u)) Q E s:=by
 refine ne_int ?_
 have e:(a != b)=decide (a≠b):=by by_cases c:a=b <;> simp [c]
 rw [e]; exact h
theorem as_name {x:Str} {pos:Pos} {v:Value} {Q:Unit→Shared→Prop} (h:wpAny (model B.prog B.w) A (storeName env x v) Q E s):wpAny (model B.prog B.w) A (assign (.Name x pos) env v) Q E s:=
 wpAny_bind (wpAny_standAt (bindName_ h))
section
variable {bs:List (Str×Value)} {x:Str} {r:List (Str×VS)}
end
end
end Mine
namespace Mine
open PySem PySem.W PyProof.Rows PySem.Spec PySem.Calls Builtin Builtin.ObjectAttr
theorem fe_obj {B:Bs} (hB:BOk B):∃ nm q bs hdct sn sub ab col dd k0 k1 k2 k3 k5,B.base.get? 51=some (excClassObj nm q 51 50 bs [.ref 31,.type "Exception",.type "BaseException",.type "object"] hdct sn sub ab col dd k0 k1 k2 k3 k5 "Exception.__new__"):=
 ⟨_,_,_,_,_,_,_,_,_,_,_,_,_,_,hB.X _ _ (by k_is)⟩
theorem fe_tail {B:Bs} (hB:BOk B):OwnTail B.base [.type "Exception",.type "BaseException",.type "object"] [.ref 31,.type "Exception",.type "BaseException",.type "object"]:=
 .own (hB.X 31 _ (by k_is)) (.of_isNs (isNs_of_in hB.X (N:=30) (by kernel_rfl))) (nsMap_none_of_in hB.X (by kernel_rfl) (by k_is)) .base
theorem fe_init {B:Bs} (hB:BOk B):findIn (frag B.w.params) (.ref 51) "__init__" = some (some (.ref 48)):=by k_is
theorem fe_set {B:Bs}:findIn (frag B.w.params) (.ref 51) "__setattr__" = some (some (.builtin "object.__setattr__")):=by k_is
noncomputable def feMro:List Value:=[.ref 51,.ref 31,.type "Exception",.type "BaseException",.type "object"]
theorem fe_cls {B:Bs}:∃ cd,clsIn (frag B.w.params) 51=some cd∧cd.mro=feMro∧cd.hasDict=true:=⟨_,by k_is,rfl,rfl⟩
theorem fe_refuse (self:Value):refuseLoop self "__setattr__" feMro=pure ():=by
 unfold feMro
 rw [refuseLoop_ref,refuseLoop_ref]
 kernel_rfl
section
variable {B:Bs} {A:Around} {led led':Led} {s:Shared} {E:Value→Shared→Prop}
theorem fe_osa {ox:Obj} {od:Option Obj} {x:Addr} {name:Str} {tk:Tok} {v:Value} {R:Result→Shared→Prop} (X:(frag B.w.params).In s.heap) (I:InstAt s.heap x ox 51 od) (ht:takerIn (frag B.w.params) 51 name=some none)
  (h:∀ b,wpAny (model B.prog B.w) A.in1 (storeInOwnDict (.ref x) (.ref 51) (.str name tk) name v b)
   (fun fin s'=>match fin with | .done f=>R (.ok f) s' | .again c'=>c'.quiet=true∧codeAny (model B.prog B.w) A c' R s') (fun e s'=>R (.error e) s') s):
  codeAny (model B.prog B.w) A (.call (.builtin "object.__setattr__") ⟨[.ref x,.str name tk,v],[]⟩) R s:=by
 have SF:=PySem.F.store_object
 obtain ⟨cd,hc,hmro,_⟩:=fe_cls (B:=B)
 have ne:cd.mro.isEmpty=false:=by rw [hmro]; rfl
 have sub:Looks (model B.prog B.w) s.heap (isInstance (.ref x) (.type "object")) true:=I.type.andThen (looks_mroIn X (by unfold mroIn; rw [hc,Option.bind_some,if_neg (by rw [ne]; decide),hmro]; rfl))
 refine codeAny_call_builtin SF.slot.plain SF.entry (@check_slot (model B.prog B.w) _ _ s "object.__setattr__" "object" "__setattr__" (.ref x) [.str name tk,v] [] _ SF.kind SF.split sub (SF.args (.ref x) (.str name tk) v) ?_)
 obtain ⟨attr,ha,hr⟩:=Option.bind_eq_some_iff.mp ht
 have hm:Looks (model B.prog B.w) s.heap (mroOf (.ref 51)) cd.mro:=(looks_clsIn X hc).andThen .now
 have L3:Looks (model B.prog B.w) s.heap (storeTaker? attr) none:=by
  cases attr with
  | none=>exact .now
  | some a=>
   obtain ⟨b,hb,hbe⟩:=Option.map_eq_some_iff.mp hr
   refine (looks_takesIn X hb).andThen ?_
   cases b
   ·exact .now
   ·cases hbe
 rw [osa_eq,refuse_eq]
 refine wpAny_bind (wpAny_bind (I.type.here (wpAny_bind (hm.here ?_))))
 rw [hmro,fe_refuse]
 refine wpAny_pure (wpAny_bind (I.type.here (wpAny_bind ((looks_findIn X ha).here (wpAny_bind (L3.here ?_))))))
 exact h _
theorem fe_store {dx:Addr} {od:Obj} {es:Array DictEntry} {n:Nat} {name:Str} {tk:Tok} {u:Value} {R:Result→Shared→Prop} (hod:s.heap.get? dx=some od) (hd:od.data=.dict es n) (hk:StrKeys es) (hz:es.size≤900)
  (h:R (.ok (.ret .none)) { s with heap:=s.heap.update dx (Obj.putName name (PyData.keyHash B.w.params name) (.str name s.toks) u),toks:=s.toks+1 }):
  wpAny (model B.prog B.w) A.in1 (storeInDict dx (.str name tk) name u) (fun fin s'=>match fin with | .done f=>R (.ok f) s' | .again c'=>c'.quiet=true∧codeAny (model B.prog B.w) A c' R s') (fun e s'=>R (.error e) s') s:=by
 obtain ⟨es',n',p1,p2,p3,p4,p5⟩:=putName_ns (name:=name) (hsh:=PyData.keyHash B.w.params name) (tk:=s.toks) (v:=u) hd hk
 have D':=Heap.get?_update_self (Obj.putName name (PyData.keyHash B.w.params name) (.str name s.toks) u) hod (Obj.isFreed_of_dict p1)
 refine wpAny_bind (wpAny_pure (wpAny_bind ?_))
 unfold nsSet
 refine wpAny_bind (wpAny_bind (wpAny_askSetting (wpAny_pure (wpAny_bind (wpAny_mkText (wpAny_bind (wpAny_loadPart hod ?_)))))))
 rw [hd]
 dsimp only
 have hany:es.any (·.refKey)=false:=by
  rw [Array.any_eq_false']; intro e he; obtain ⟨n,t,h⟩:=hk e he; simp [DictEntry.refKey,h]
 have c:(!es.any (·.key.isStr name)&&es.any (·.refKey))=false:=by rw [hany,Bool.and_false]
 rw [aRefKeyMayBeTheName_at,c]
 refine wpAny_updatePart hod ?_
 refine wpAny_bind (wpAny_lookBehind D' (by rw [p1]; exact pastItsLine_dict (by rw [sizeLine_eq]; exact far [_,_] [] (.a Z0 (.p (.n 16777216) (.n 1))) [.a Z1 (.n 900),.a Z0 (.p Z1 (.n 1))] [1,1,1] (fm hz (fm p5 fz)) rfl)) ?_)
 exact wpAny_pure h
theorem fe_osa1 {e:Addr} {ox:Obj} {name:Str} {tk:Tok} {u:Value} {R:Result→Shared→Prop} (X:(frag B.w.params).In s.heap) (ho:s.heap.get? e=some ox) (h1:ox.cls=.ref 51) (h2:ox.dict=none) {fs:Array Value} (h3:ox.data=.fields fs)
  (ht:takerIn (frag B.w.params) 51 name=some none)
  (h:R (.ok (.ret .none)) { s with heap:=((s.heap.push emptyDict).update e fun o=>{ o with dict:=some s.heap.objs.size }).update s.heap.objs.size (Obj.putName name (PyData.keyHash B.w.params name) (.str name s.toks) u),toks:=s.toks+1 }):
  codeAny (model B.prog B.w) A (.call (.builtin "object.__setattr__") ⟨[.ref e,.str name tk,u],[]⟩) R s:=by
 refine fe_osa X (od:=none) ⟨ho,h1,by unfold notCls; rw [h3],by rw [h2]; trivial⟩ ht fun b=>?_
 obtain ⟨cd,hc,hmro,hdct⟩:=fe_cls (B:=B)
 obtain ⟨oc,odi,oda,osl⟩:=ox
 dsimp only at h1 h2 h3
 subst h1 h2 h3
 refine wpAny_bind (wpAny_pure (wpAny_bind (wpAny_bind (wpAny_loadPart ho (wpAny_bind ((looks_clsIn X hc).here ?_))))))
 rw [hdct]
 refine wpAny_bind (wpAny_alloc ?_)
 have hne:s.heap.objs.size≠e:=Nat.ne_of_gt (Heap.lt_size ho)
 have ho':=Heap.get?_push_of_some emptyDict ho
 refine wpAny_bind (wpAny_update ho' ?_)
 have hd':((s.heap.push emptyDict).update e fun o=>{ o with dict:=some s.heap.objs.size }).get? s.heap.objs.size=some emptyDict:=by
  rw [Heap.get?_update_other _ _ (Ne.symm hne)]; exact Heap.get?_push_size _ rfl
 refine wpAny_pure (a:=some s.heap.objs.size) ?_
 exact fe_store (s:={ s with heap:=(s.heap.push emptyDict).update e fun o=>{ o with dict:=some s.heap.objs.size } }) hd' rfl (fun e he=>by simp at he) (by simp) h
theorem nsOk_nil:nsOk [] (nsFind #[]):=⟨fun p hp=>(nomatch hp),List.nodup_nil,fun x _=>rfl⟩
theorem nsOk_new {l:List (Str×VS)} {m m':Str→Option Value} {name:Str} {v:VS} {u:Value} (k4:nsOk l m) (hn:name ∉ l.map (·.1)) (hv:v.ok (some u)) (p3:∀ y,m' y=if y=name then some u else m y):nsOk (l++[(name,v)]) m':=by
 refine ⟨?_,?_,fun y hy=>?_⟩
 ·intro p hp
  rcases List.mem_append.mp hp with hp | hp
  ·have hne:p.1≠name:=fun e=>hn (e ▸ List.mem_map_of_mem (f:=(·.1)) hp)
   rw [p3,if_neg hne]; exact k4.has p hp
  ·obtain rfl:=List.mem_singleton.mp hp
   rw [p3,if_pos rfl]; exact hv
 ·rw [List.map_append,List.nodup_append]
  refine ⟨k4.nodup,by simp,fun a ha b hb e=>?_⟩
  simp at hb
  subst hb e
  exact hn ha
 ·rw [List.map_append] at hy
  simp only [List.map_cons,List.map_nil,List.mem_append,List.mem_singleton,not_or] at hy
  rw [p3,if_neg hy.2]
  exact k4.only y hy.1
theorem fe_first {e:Addr} {name:Str} {u:Value} {v:VS} {Q:Unit→Shared→Prop} (hB:BOk B) (H:St B led s) (U:Up e (.exc 51 none) (.exc 51 (some s.heap.objs.size)) led led') (hv:v.ok (some u)) (ht:takerIn (frag B.w.params) 51 name=some none)
  (h:∀ s',St B ((s.heap.objs.size,.attrs [(name,v)])::led') s'→Q () s'):
  wpAny (model B.prog B.w) A (setAttr (.ref e) name u) Q E s:=by
 have X':(frag B.w.params).In s.heap:=fun a o e=>H.keep _ _ (hB.X a o e)
 obtain ⟨ox,ho,h1,h2,t,h3⟩:=H.get U.mem
 have I:InstAt s.heap e ox 51 none:=⟨ho,h1,by unfold notCls; rw [h3],by rw [h2]; trivial⟩
 refine set_plain X' I fe_set (fe_osa1 (s:={ s with toks:=s.toks+1 }) X' ho h1 h2 h3 ht (h _ ?_))
 obtain ⟨es',n',p1,p2,p3,p4,p5⟩:=putName_ns (o:=emptyDict) (es:=#[]) (n:=0) (name:=name) (hsh:=PyData.keyHash B.w.params name) (tk:=s.toks+1) (v:=u) rfl (fun e he=>by simp at he)
 have hne:s.heap.objs.size≠e:=Nat.ne_of_gt (Heap.lt_size ho)
 have H0:St B ((s.heap.objs.size,.attrs [])::led) { s with heap:=s.heap.push emptyDict,toks:=s.toks }:=H.push emptyDict ⟨#[],0,rfl,fun e he=>by simp at he,Nat.le_refl _,nsOk_nil⟩
 have H1:St B ((s.heap.objs.size,.attrs [])::led') { s with heap:=(s.heap.push emptyDict).update e fun o=>{ o with dict:=some s.heap.objs.size },toks:=s.toks }:=by
  refine H0.change (.tail U) (t:=s.toks) (fun b x hb hx=>(Heap.get?_update_other _ _ (Ne.symm hb)).trans hx) (Heap.get?_update_self _ (Heap.get?_push_of_some emptyDict ho) ?_) ⟨h1,rfl,t,h3⟩
  obtain ⟨_,_,_,_⟩:=ox; cases h3; rfl
 have hd':((s.heap.push emptyDict).update e fun o=>{ o with dict:=some s.heap.objs.size }).get? s.heap.objs.size=some emptyDict:=by
  rw [Heap.get?_update_other _ _ (Ne.symm hne)]; exact Heap.get?_push_size _ rfl
 refine H1.change (o':=.attrs [(name,v)]) .head (fun b x hb hx=>(Heap.get?_update_other _ _ (Ne.symm hb)).trans hx) (Heap.get?_update_self _ hd' (Obj.isFreed_of_dict p1)) ⟨es',n',p1,p2,by simpa using p5,?_⟩
 exact nsOk_new nsOk_nil (by simp) hv p3
theorem fe_osa2 {e d:Addr} {ox od:Obj} {es:Array DictEntry} {n:Nat} {name:Str} {tk:Tok} {u:Value} {R:Result→Shared→Prop} (X:(frag B.w.params).In s.heap) (ho:s.heap.get? e=some ox) (h1:ox.cls=.ref 51) (h2:ox.dict=some d) {fs:Array Value} (h3:ox.data=.fields fs)
  (hod:s.heap.get? d=some od) (hdd:od.data=.dict es n) (hk:StrKeys es) (hz:es.size≤900) (ht:takerIn (frag B.w.params) 51 name=some none)
  (h:R (.ok (.ret .none)) { s with heap:=s.heap.update d (Obj.putName name (PyData.keyHash B.w.params name) (.str name s.toks) u),toks:=s.toks+1 }):
  codeAny (model B.prog B.w) A (.call (.builtin "object.__setattr__") ⟨[.ref e,.str name tk,u],[]⟩) R s:=by
 refine fe_osa X (od:=some od) ⟨ho,h1,by unfold notCls; rw [h3],by rw [h2]; exact hod⟩ ht fun b=>?_
 obtain ⟨cd,hc,hmro,hdct⟩:=fe_cls (B:=B)
 obtain ⟨oc,odi,oda,osl⟩:=ox
 dsimp only at h1 h2 h3
 subst h1 h2 h3
 refine wpAny_bind (wpAny_pure (wpAny_bind (wpAny_bind (wpAny_loadPart ho (wpAny_bind ((looks_clsIn X hc).here ?_))))))
 rw [hdct]
 refine wpAny_pure (a:=some d) ?_
 exact fe_store hod hdd hk hz h
theorem fe_next {e d:Addr} {l:List (Str×VS)} {name:Str} {u:Value} {v:VS} {Q:Unit→Shared→Prop} (hB:BOk B) (H:St B led s) (he:(e,.exc 51 (some d))∈led) (U:Up d (.attrs l) (.attrs (l++[(name,v)])) led led') (hv:v.ok (some u)) (hn:name ∉ l.map (·.1)) (hz:l.length≤900)
  (ht:takerIn (frag B.w.params) 51 name=some none) (h:∀ s',St B led' s'→Q () s'):
  wpAny (model B.prog B.w) A (setAttr (.ref e) name u) Q E s:=by
 have X':(frag B.w.params).In s.heap:=fun a o e=>H.keep _ _ (hB.X a o e)
 obtain ⟨ox,ho,h1,h2,t,h3⟩:=H.get he
 obtain ⟨od,hod,es,n,k1,k2,k3,k4⟩:=H.get U.mem
 have I:InstAt s.heap e ox 51 (some od):=⟨ho,h1,by unfold notCls; rw [h3],by rw [h2]; exact hod⟩
 obtain ⟨es',n',p1,p2,p3,p4,p5⟩:=putName_ns (name:=name) (hsh:=PyData.keyHash B.w.params name) (tk:=s.toks+1) (v:=u) k1 k2
 refine set_plain X' I fe_set (fe_osa2 (s:={ s with toks:=s.toks+1 }) X' ho h1 h2 h3 hod k1 k2 (by exact Nat.le_trans ‹_› ‹_›) ht (h _ ?_))
 exact H.change U (Heap.SameBut.update ..).extBut (Heap.get?_update_self _ hod (Obj.isFreed_of_dict p1)) ⟨es',n',p1,p2,by rw [List.length_append]; simp; exact far [_,_,_] [] (.a Z0 (.p Z1 (.n 1))) [.a Z2 Z1,.a Z0 (.p Z2 (.n 1))] [1,1,1] (fm k3 (fm p5 fz)) rfl,nsOk_new k4 hn hv p3⟩
theorem fe_new {vs:List Value} {Q:Value→Shared→Prop} {envs:List Env} {n:Nat} (hB:BOk B) (H:St B led s) (R:Rm A envs (n+3)) (hlen:vs.length≤1000)
  (h:∀ e s' A',St B ((e,.exc 51 none)::led) s'→Rm A' envs n→codeAny (model B.prog B.w) A' (.call (.ref 48) ⟨.ref e::vs,[]⟩) (RQ (fun v s'=>v=.none∧Q (.ref e) s') E) s'):
  wpAny (model B.prog B.w) A (call (.ref 51) vs) Q E s:=by
 obtain ⟨nm,q,bs,hdct,sn,sub,ab,col,dd,k0,k1,k2,k3,k5,hC₀⟩:=fe_obj hB
 have F:=PySem.F.excBase_Exception
 have hC:=H.keep _ _ hC₀
 have T:=(fe_tail hB).keeps H.keep
 have X':(frag B.w.params).In s.heap:=fun a o e=>H.keep _ _ (hB.X a o e)
 obtain ⟨hp,g,d,t,os⟩:=s
 have f1:=tc_lookup
 have f2:=tc_bind (.ref 51)
 have hT:(⟨hp,g,d,t,os⟩:Shared).TypeIs (.ref 51) "type" := ⟨_,hC,rfl⟩
 refine wpAny_call (codeAny_of_tree ?_)
 show wpAny _ _ (callAny (.ref 51) _) _ _ _
 repeat (any_goals (first | assumption | with_reducible refine wpAny_loadPart_at hC ?_ | wp_step))
 refine ⟨rfl,?_⟩
 refine codeAny_call_builtin_at (Code.quiet_builtin _ (by decide +kernel)) entry_typeCall (wpAny_check_type_call_sub hC ?_)
 repeat (first | with_reducible refine wpAny_loadPart_at hC ?_ | with_reducible refine wpAny_madeBy_exc hC ?_ | wp_step)
 refine codeAny_call_builtin_code (Code.quiet_builtin _ F.quiet) (wpAny_check_new_subT F T hC ?_)
 refine codeAny_exc_new_subT F T hC ?_ (Nat.le_trans (by simpa using hlen) (by decide:1000≤sizeLine))
 show wpAny _ _ _ _ _ _
 have H1:=H.grow0 (t:=t) (h':=hp.push { cls:=.type "tuple",data:=.seq (([]:List Value).append vs).toArray }) fun b o e=>Heap.get?_push_of_some _ e
 have H2:=H1.push (o:=.exc 51 none) (t:=t) { cls:=.ref 51,data:=.fields #[.ref hp.objs.size,.none,.none,.none,.bool false,.none] } ⟨rfl,rfl,_,rfl⟩
 have k:∀ b o,hp.get? b=some o→((hp.push { cls:=.type "tuple",data:=.seq (([]:List Value).append vs).toArray }).push { cls:=.ref 51,data:=.fields #[.ref hp.objs.size,.none,.none,.none,.bool false,.none] }).get? b=some o:=fun b o e=>Heap.get?_push_of_some _ (Heap.get?_push_of_some _ e)
 have hC₁:=k _ _ hC
 have hget:((hp.push { cls:=.type "tuple",data:=.seq (([]:List Value).append vs).toArray }).push
   { cls:=.ref 51,data:=.fields #[.ref hp.objs.size,.none,.none,.none,.bool false,.none] }).get? (hp.objs.size+1)=some
   { cls:=.ref 51,data:=.fields #[.ref hp.objs.size,.none,.none,.none,.bool false,.none] }:=by heap_get
 have hcC:(Value.ref 51::[.ref 31,.type "Exception",.type "BaseException",.type "object"]:List Value).contains (.ref 51)=true:=by simp
 simp only [Heap.size_push] at H2
 unfold isInstance
 repeat (first | with_reducible refine wpAny_loadPart_at hget ?_ | (with_reducible refine wpAny_isSubtype_exc hC₁ ?_; rw [hcC]) | wp_step)
 show wpAny _ _ (typeLookup (.ref 51) _) _ _ _
 have X₁:(frag B.w.params).In ((hp.push { cls:=.type "tuple",data:=.seq (([]:List Value).append vs).toArray }).push { cls:=.ref 51,data:=.fields #[.ref hp.objs.size,.none,.none,.none,.bool false,.none] }):=fun a o e=>k _ _ (X' a o e)
 refine (looks_findIn X₁ (fe_init hB)).at ?_
 refine wpAny_holding (wpAny_bind ((bind_fn X₁ _ (beq_iff_eq.mp (show isFn (frag B.w.params) (.ref 48)=true by k_is))).at ?_))
 dsimp only
 refine wpAny_bind (wpAny_call ?_)
 refine codeAny_mono (h _ _ _ H2 (R.under.le (by lia))) fun r s' q=>?_
 cases r with
 | error e=>exact q
 | ok fl=>
  cases fl with
  | ret v=>
   obtain ⟨rfl,q⟩:=q
   exact wpAny_pure (wpAny_pure q)
  | _=>exact q.elim
theorem exc_born {envs:List Env} {e:Addr} {d:Option Addr} (hx:B.exC=51) (H:St B ((e,.exc 51 d)::led) s) (hF:FrOk envs led):Exc B envs led false e s:=by
 obtain ⟨oe,ho,h1,h2,t,h3⟩:=H.get (.head _)
 have nd:=H.nodup
 simp only [List.map_cons,List.nodup_cons] at nd
 have He:St B led s:=H.sub (Sub.skip (Sub.refl _))
 refine ⟨He,hF,hideAll s.heap (e::envs.map (·.locals)),fun b o q=>?_,fun b o q=>of_hideAll _ q,hideAll_none _ (.head _),fun env he=>hideAll_none _ (.tail _ (List.mem_map_of_mem he)),fun p hp hne=>?_,oe,_,_,ho,by rw [h1,hx],h3,rfl,.inl ⟨rfl,rfl⟩⟩
 ·refine hideAll_get _ (H.keep _ _ q) fun hm=>?_
  rcases List.mem_cons.mp hm with rfl | hm
  ·exact H.ne_base (.head _) q rfl
  ·obtain ⟨env,he,rfl⟩:=List.mem_map.mp hm
   obtain ⟨_,_,l,hl⟩:=hF env he
   exact He.ne_base hl q rfl
 ·obtain ⟨o,ho',_⟩:=He.has p hp
  refine ⟨o,hideAll_get _ ho' fun hm=>?_⟩
  rcases List.mem_cons.mp hm with e1 | hm
  ·exact nd.1 (e1 ▸ List.mem_map_of_mem (f:=(·.1)) hp)
  ·obtain ⟨env,he,q⟩:=List.mem_map.mp hm
   exact hne env he q.symm
theorem raise_x {env:Env} {envs:List Env} {x:Sem Value} {Q:Flow→Shared→Prop} (hB:BOk B) (hh:A.handled=none)
  (h:wpAny (model B.prog B.w) A x (fun v s₁=>∃ e d led₁,v=.ref e∧St B ((e,.exc 51 d)::led₁) s₁∧FrOk envs led₁∧(Exc B envs led₁ false e s₁→E (.ref e) s₁)) E s):
  wpAny (model B.prog B.w) A (raiseStmt env (some x) none) Q E s:=by
 obtain ⟨nm,q,bs,hdct,sn,sub,ab,col,dd,k0,k1,k2,k3,k5,hC₀⟩:=fe_obj hB
 have hcB:(Value.ref 51::[.ref 31,.type "Exception",.type "BaseException",.type "object"]:List Value).contains (.type "BaseException")=true:=by decide
 unfold raiseStmt
 refine wpAny_bind (wpAny_mono h (fun v s₁ h₁=>?_) fun _ _ x=>x)
 obtain ⟨e,d,led₁,rfl,H,hF,hE⟩:=h₁
 have hx:=hE (exc_born hB.exc H hF)
 have hC:=H.keep _ _ hC₀
 obtain ⟨oe,he,h1,h2,t,h3⟩:=H.get (.head _)
 obtain ⟨oc,od,odt,osl⟩:=oe
 dsimp only at h1 h2 h3
 subst h1 h2 h3
 obtain ⟨hp,g,dr,tk,os⟩:=s₁
 repeat (first | with_reducible refine wpAny_loadPart_at he ?_ | with_reducible refine wpAny_loadPart_at hC ?_ | (with_reducible refine wpAny_isSubtype_exc hC ?_; rw [hcB]) | wp_step)
 exact wpAny_raiseNew_none hh hx
theorem raise_ {env:Env} {envs:List Env} {n:Nat} {c:Expr} {pos:Pos} {Q:Flow→Shared→Prop} (hB:BOk B) (R:Rm A envs n)
  (h:wpAny (model B.prog B.w) A (eval c env) (fun v s₁=>∃ e d led₁,v=.ref e∧St B ((e,.exc 51 d)::led₁) s₁∧FrOk envs led₁∧(Exc B envs led₁ false e s₁→E (.ref e) s₁)) E s):
  wpAny (model B.prog B.w) A (exec (.Raise (some c) none pos) env) Q E s:=by
 rw [arm_exec_Raise]
 refine wpAny_bind (wpAny_standAt ?_)
 show wpAny _ _ (raiseStmt env (some (do let v ← eval c env; standAt pos; pure v)) none) _ _ _
 exact raise_x hB R.handled (wpAny_bind (wpAny_mono h (fun v s₁ q=>wpAny_bind (wpAny_standAt (wpAny_pure q))) fun _ _ x=>x))
end
end Mine
namespace Mine
open PySem PySem.W PyProof.Rows PySem.Spec PySem.Calls
theorem Sub.comm (a b:Led):Sub (b++a) (a++b):=Sub.of_perm List.perm_append_comm
theorem Sub.left2 (a b c:Led):Sub a ((a++b)++c):=(Sub.left a b).trans (Sub.left _ _)
theorem isn_none {B:Bs} {A:Around} {E:Value→Shared→Prop} {s:Shared} {Q:Value→Shared→Prop} (h:Q (.bool true) s):wpAny (model B.prog B.w) A (compareOp CmpOp.Is .none .none) Q E s:=is_none h
theorem isn_ref {B:Bs} {A:Around} {E:Value→Shared→Prop} {s:Shared} {a:Addr} {Q:Value→Shared→Prop} (h:Q (.bool false) s):wpAny (model B.prog B.w) A (compareOp CmpOp.Is (.ref a) .none) Q E s:=is_none h
section
variable {B:Bs} {A:Around} {led led':Led} {s:Shared} {E:Value→Shared→Prop} {env:Env}
theorem l_item_last {value slice:Expr} {l:Addr} {vs:List VS} {u:Tok} {v:VS} {Q:Value→Shared→Prop} (H:St B led s) (hm:(l,OS.lst vs)∈led) (hz:vs.length<1000000) (hv:vs[vs.length-1]?=some v) (h:v.all fun x=>Q x s)
  (hs:subscripted slice false (.ref l) (.int (-1) u)=operate [.ref l,.int (-1) u] (getItem (.ref l) (.int (-1) u))):
  wpAny (model B.prog B.w) A (subscriptTail value slice (.ref l) (.int (-1) u)) Q E s:=by
 obtain ⟨xs,n,hx,hok⟩:=H.isL hm
 have e:xs.size=vs.length:=by rw [← Array.length_toList]; exact oks_length hok
 obtain ⟨x,e',ok⟩:=oks_get _ hok hv
 obtain ⟨x',e2,hq⟩:=VS.all_of h ok
 cases e2
 have hpos:0<vs.length:=by have:=(List.getElem?_eq_some_iff.mp hv).1; exact far [_,_] [] (.b (.n 0) Z0) [.b Z1 Z0] [1,1] (fm this fz) rfl
 refine tail_any (isList_of hx).typeIs slot_list_getitem.lookup (wpAny_getItem_list_neg (isList_of hx) (by lia) (by rw [e]; exact far [_] [] (.d (.ng X0) (.z (-1))) [.b (.n 0) Z0] [1,1] (fm hpos fz) rfl) (by exact Int.natCast_nonneg _) ?_ hq) hs
 have:(-1+(xs.size:Int)).toNat=vs.length-1:=by rw [e]; exact Nat.le_antisymm (far [_,_,_] [] (.a Z0 Z1) [.a Z2 (.p Z1 (.n 1)),.f X0 (.q (.z (-1)) X2)] [1,1,1] (fm (ns1 _ _) (fm (it2 (far [_] [] (.d (.z 0) (.q (.z (-1)) X0)) [.b (.n 0) Z0] [1,1] (fm hpos fz) rfl)) fz)) rfl) (far [_,_,_] [] (.a Z0 Z1) [.d (.q (.z (-1)) X2) X1,.c (.p Z0 (.n 1)) Z2] [1,1,1] (fm (it1 _) (fm (ns2 (far [_] [] (.a (.n 1) Z0) [.b (.n 0) Z0] [1,1] (fm hpos fz) rfl)) fz)) rfl)
 rw [this,← Array.getElem?_toList]; exact e'
theorem d_itemT {value slice:Expr} {d:Addr} {kvs:List (Int×Value)} {k:Int} {t:Tok} {v:Value} {Q:Value→Shared→Prop} (H:St B led s) (hm:(d,idic B kvs)∈led) (hv:valueAt kvs k=some v) (h:∀ s',St B led s'→Q v s')
  (hs:subscripted slice false (.ref d) (.int k t)=operate [.ref d,.int k t] (getItem (.ref d) (.int k t))):
  wpAny (model B.prog B.w) A (subscriptTail value slice (.ref d) (.int k t)) Q E s:=
 tail_any (H.isI hm).typeIs slot_dict_getitem.lookup (d_get H hm hv h) hs
theorem td_itemT {value slice:Expr} {d:Addr} {envs:List Env} {n:Nat} {xs:List (List Int×Addr×Value)} {a:Addr} {x y:Int} {p:Addr×Value} {Q:Value→Shared→Prop} (R:Rm A envs n) (H:St B led s) (hm:(d,tdic B xs)∈led) (hk:TKeys led xs) (ha:(a,OS.tup [.int x,.int y])∈led)
  (hp:atKey xs [x,y]=some p) (h:∀ s',St B led s'→Q p.2 s')
  (hs:subscripted slice false (.ref d) (.ref a)=operate [.ref d,.ref a] (getItem (.ref d) (.ref a))):wpAny (model B.prog B.w) A (subscriptTail value slice (.ref d) (.ref a)) Q E s:=
 tail_any (H.isTD hm hk).typeIs slot_dict_getitem.lookup (td_get R H hm hk ha hp h) hs
theorem d_setdefU {d:Addr} {kvs:List (Int×Value)} {k:Int} {t:Tok} {dflt:Value} {Q:Value→Shared→Prop} (H:St B led s) (U:Up d (idic B kvs) (idic B (stored kvs k dflt)) led led') (hz:kvs.length≤1000000)
  (h1:∀ v s',valueAt kvs k=some v→St B led s'→Q v s') (h2:valueAt kvs k=none→∀ s',St B led' s'→Q dflt s'):
  wpAny (model B.prog B.w) A (call (.builtin "dict.setdefault") [.ref d,.int k t,dflt]) Q E s:=
 call_meetsIn PySem.F.slot_dict_setdefault (H.isI U.mem).typeIs PySem.F.entry_dict_setdefault (PySem.F.args_dict_setdefault_3 _ _ _) (kt_meets_setdefault (intKind B.prog B.w) d (Mine.isI k t) (H.notMods U.mem) dflt)
  ⟨kvs,H.isI U.mem,by rw [sizeLine_eq]; exact nA hz rfl,fun v hv=>h1 v _ hv H.toks,fun hn h' hd hs=>h2 hn _ (H.isI_set U hs hd)⟩
theorem it_rangeI {ia:Addr} {a c:Int} {n:Nat} {Q:Value→Shared→Prop} (H:St B ((ia,(itrRange B a c n).at_ 0)::led) s) (h:Q (.ref ia) s):wpAny (model B.prog B.w) A (pyIter (.ref ia)) Q E s:=by
 obtain ⟨o,ho,rfl⟩:=H.get (.head _)
 exact wpAny_pyIter_rangeiter ho h
theorem it_listI {ia l:Addr} {vs:List VS} {Q:Value→Shared→Prop} (H:St B ((ia,(itrList B l vs).at_ 0)::led) s) (h:Q (.ref ia) s):wpAny (model B.prog B.w) A (pyIter (.ref ia)) Q E s:=by
 obtain ⟨o,ho,hc,hd⟩:=H.get (.head _)
 exact wpAny_pyIter_listiter ⟨o,ho,hc,hd⟩ h
theorem list_let {elts:List Expr} {x1} {pos:Pos} {ia l:Addr} {vs:List VS} {i:Nat} {v:Value} {Q:Unit→Shared→Prop} (H:St B ((ia,(itrList B l vs).at_ i)::led) s) (h:Q () s):
  wpAny (model B.prog B.w) A (letOwnedTupleGo (.Tuple elts x1 pos) (.ref ia) v) Q E s:=by
 obtain ⟨o,ho,hc,hd⟩:=H.get (.head _)
 cases v with
 | ref t=>exact wpAny_letOwnedTupleGo_listiter ⟨o,ho,hc,hd⟩ h
 | _=>exact wpAny_pure h
end
end Mine
namespace Mine
open PySem PySem.W PyProof.Rows PySem.Spec PySem.Calls
section
variable {B:Bs} {A:Around} {s:Shared} {E:Value→Shared→Prop} {env:Env} {outer:List Env} {n:Nat}
theorem try_ {body orelse:List Stmt} {t:Expr} {b₀:Stmt} {suite:List Stmt} {pos hpos:Pos} {Q:Flow→Shared→Prop} {bm:List Value}
  (R:Rm A (env::outer) n) (hC:∃ nm q N bs hdct sn sub ab col dd k0 k1 k2 k3 k5 newId,B.base.get? B.exC=some (excClassObj nm q B.exC N bs bm hdct sn sub ab col dd k0 k1 k2 k3 k5 newId)) (hbm:bm.contains (.type "BaseException")=true)
  (hname:∀ (A':Around) (s:Shared) (led:Led) (Q:Value→Shared→Prop) (E:Value→Shared→Prop),St B led s→Q (.ref B.exC) s→wpAny (model B.prog B.w) A' (eval t env) Q E s)
  (h:wpAny (model B.prog B.w) A (execs body env) (fun f s₁=>match f with | .next=>wpAny (model B.prog B.w) A (execs orelse env) Q E s₁ | f=>Q f s₁)
   (fun v s₁=>∃ led,ExIn B (env::outer) led v s₁∧∀ (A':Around) s',A'.units=A.units→St B led s'→wpAny (model B.prog B.w) A' (execs (b₀::suite) env) Q (fun _ _=>False) s') s):
  wpAny (model B.prog B.w) A (exec (.Try body [.ExceptHandler (some t) none (b₀::suite) hpos] orelse [] pos) env) Q E s:=by
 refine wpAny_Try_except (wpAny_mono h (fun _ _ q=>q) fun v s₁ h₁=>?_)
 obtain ⟨led,⟨e,k,rfl,x1⟩,hq⟩:=h₁
 refine exc_note x1 R.frames fun s₂ x2=>exc_flight x2 (.inl rfl) fun s₃ x3=>?_
 refine wpAny_handleBy_cons (codeAny_handlers_test (hname _ _ _ _ _ x3.st ?_)) (by intro q; cases q)
 obtain ⟨nm,qn,N,bs,hdct,sn,sub,ab,col,dd,k0,k1,k2,k3,k5,newId,hC⟩:=hC
 have hC:=x3.st.keep _ _ hC
 obtain ⟨oe,ho1,ho2⟩:∃ oe,s₃.heap.get? e=some oe∧oe.cls=.ref B.exC:=by
  obtain ⟨a,b,g,h1,h2,h3,h4,h5,oe,vs,a0,k1,k2,k3,k4,k5⟩:=x3
  exact ⟨oe,k1,k2⟩
 obtain ⟨hh,g,d,tk,os⟩:=s₃
 refine wpAny_excMatches_sub_self hC ho1 ho2 hbm (codeAny_handlers_suite ?_)
 refine exc_flight x3 (.inl rfl) fun s₄ x4=>?_
 exact wpAny_mono (hq _ s₄ rfl x4.st) (fun _ _ q=>q) fun _ _ q=>q.elim
end
end Mine
namespace Mine
open PySem PySem.W PyProof.Rows PySem.Spec PySem.Calls
noncomputable section
inductive Hn where
 | i (n:Nat)
 | l (ns:List Int)
 | r (as:List Addr)
 | v (k:Int)
 | x
 | j
 | m
 | t (vs:List VS)
 | u (n:Nat) (ns:List Int)
 | b (t f:List Hn)
noncomputable abbrev Hs:=List Hn
noncomputable def brT:Hs→Hs
 | .b t _::_=>t
 | hs=>hs
noncomputable def brF:Hs→Hs
 | .b _ f::_=>f
 | hs=>hs
inductive FS where
 | next
 | brk
 | cont
 | ret (v:VS)
noncomputable abbrev NM:=List (Str×NameKind)
noncomputable abbrev Fr:=List (Str×VS)
noncomputable abbrev KE:=VS→Led→Hs→Prop
noncomputable abbrev KS:=FS→Fr→Led→Hs→Prop
inductive Tk where
 | E (l:Fr) (led:Led) (hs:Hs) (e:Expr) (K:KE)
 | A (l:Fr) (led:Led) (hs:Hs) (es:List Expr) (K:List VS→Led→Hs→Prop)
 | T (l:Fr) (led:Led) (hs:Hs) (e:Expr) (K:Bool→Led→Hs→Prop)
 | W (l:Fr) (led:Led) (hs:Hs) (ss:List Stmt) (K:KS)
structure Cx (B:Bs) (nm:NM) (n:Nat) where
 A:Around
 E:Value→Shared→Prop
 env:Env
 fr:List Env
 rz:Fr→Prop
 X:Led
 hB:BOk B
 R:Rm A fr n
 hnm:env.scope.names=nm
 hk:env.scope.kind=.function
 hg:env.globals=mainGlobals
 hb:env.builtins=builtinsNs
 hE:EGood B A env E
 hfr:∀ l,rz l→∃ o,fr=env::o
 hX:∀ l,rz l→(∀ led,Sub X led→FrOk fr ((env.locals,.ns l)::led))∧∀ led v s,Sub X led→ExIn B fr ((env.locals,.ns l)::led) v s→E v s
structure IfP (c P Q:Prop):Prop where
 t:c→P
 f:¬c→Q
theorem IfP.andE {c1 c2 P Q:Prop} (tail:¬(c1∧c2)→Q) (h:c1→(¬c2→Q)→P):IfP c1 P Q:=⟨fun a=>h a fun b=>tail fun x=>b x.2,fun a=>tail fun x=>a x.1⟩
theorem IfP.orE {c1 c2 P Q:Prop} (tail:c1∨c2→P) (h:¬c1→(c2→P)→Q):IfP c1 P Q:=⟨fun a=>tail (.inl a),fun a=>h a fun b=>tail (.inr b)⟩
noncomputable def FS.ok:FS→Flow→Prop
 | .next,f=>f=.next
 | .brk,f=>f=.brk
 | .cont,f=>f=.cont
 | .ret v,f=>∃ u,f=.ret u∧v.ok (some u)
noncomputable def isStar:Expr→Bool | .Starred ..=>true | _=>false
noncomputable def noStar (es:List Expr):Bool:=es.all fun e=>!isStar e
section
variable {B:Bs} {nm:NM} {n:Nat} (C:Cx B nm n)
noncomputable def Cx.St (l:Fr) (led:Led) (s:Shared):Prop:=Mine.St B ((C.env.locals,.ns l)::led) s
noncomputable def Tk.ok:Tk→Prop
 | .E l led hs e K=>∀ (Q:Value→Shared→Prop) (s:Shared),C.St l led s→(∀ v led' hs' s' u,K v led' hs'→v.ok (some u)→C.St l led' s'→Q u s')→wpAny (model B.prog B.w) C.A (eval e C.env) Q C.E s
 | .A l led hs es K=>noStar es=true→∀ (pos:Pos) (Q:List Value→Shared→Prop) (s:Shared),C.St l led s→(∀ vs led' hs' s' us,K vs led' hs'→oks vs us→C.St l led' s'→Q us s')→wpAny (model B.prog B.w) C.A (spliced (backTo pos (starEach es C.env))) Q C.E s
 | .T l led hs e K=>∀ (Q:Bool→Shared→Prop) (s:Shared),C.St l led s→(∀ b led' hs' s',K b led' hs'→C.St l led' s'→Q b s')→wpAny (model B.prog B.w) C.A (isTrue e C.env (eval e C.env)) Q C.E s
 | .W l led hs ss K=>∀ (Q:Flow→Shared→Prop) (s:Shared),C.St l led s→(∀ f l' led' hs' s' fl,K f l' led' hs'→f.ok fl→C.St l' led' s'→Q fl s')→wpAny (model B.prog B.w) C.A (execs ss C.env) Q C.E s
structure CallP (l:Fr) (led:Led) (f:Value) (vs:List VS) (K:KE):Prop where
 ok:∀ (Q:Value→Shared→Prop) (s:Shared) us,oks vs us→C.St l led s→(∀ v led' hs' s' u,K v led' hs'→v.ok (some u)→C.St l led' s'→Q u s')→wpAny (model B.prog B.w) C.A (call f us) Q C.E s
structure CallF (l:Fr) (led:Led) (f:Value) (vs:List VS) (K:KE):Prop where
 ok:∀ (Q:Value→Shared→Prop) (s:Shared) us,oks vs us→C.St l led s→(∀ v led' hs' s' u,K v led' hs'→v.ok (some u)→C.St l led' s'→Q u s')→codeAny (model B.prog B.w) C.A (.call f ⟨us,[]⟩) (RQ Q C.E) s
structure EvP (l:Fr) (led:Led) (e:Expr) (K:KE):Prop where
 ok:(Tk.E l led [] e K).ok C
structure StP (l:Fr) (led:Led) (st:Stmt) (K:KS):Prop where
 ok:∀ (Q:Flow→Shared→Prop) (s:Shared),C.St l led s→(∀ f l' led' hs' s' fl,K f l' led' hs'→f.ok fl→C.St l' led' s'→Q fl s')→wpAny (model B.prog B.w) C.A (exec st C.env) Q C.E s
structure ItP (l:Fr) (led:Led) (ve ie:Expr) (v i:VS) (K:KE):Prop where
 ok:∀ (Q:Value→Shared→Prop) (s:Shared) u w,v.ok (some u)→i.ok (some w)→C.St l led s→(∀ v led' hs' s' u,K v led' hs'→v.ok (some u)→C.St l led' s'→Q u s')→wpAny (model B.prog B.w) C.A (subscriptTail ve ie u w) Q C.E s
structure CoP (l:Fr) (led:Led) (op:CmpOp) (va vb:VS) (K:Bool→Led→Hs→Prop):Prop where
 ok:∀ (Q:Bool→Shared→Prop) (s:Shared) u w,va.ok (some u)→vb.ok (some w)→C.St l led s→(∀ b led' hs' s',K b led' hs'→C.St l led' s'→Q b s')→wpAny (model B.prog B.w) C.A (compareOp op u w) (fun c s₃=>wpAny (model B.prog B.w) C.A (truthy c) Q C.E s₃) C.E s
structure SiP (l:Fr) (led:Led) (o i v:VS) (K:Led→Hs→Prop):Prop where
 ok:∀ (Q:Unit→Shared→Prop) (s:Shared) u w x,o.ok (some u)→i.ok (some w)→v.ok (some x)→C.St l led s→(∀ led' hs' s',K led' hs'→C.St l led' s'→Q () s')→wpAny (model B.prog B.w) C.A (setItem u w x) Q C.E s
end
noncomputable def gt (s:Str) (v:VS):Str×VS:=(s,v)
noncomputable def gtab:List (Str×VS):=[gt "LEAST_COPY" (.int 3),gt "MOST_COPY" (.int 257),gt "END" (.int 256),gt "MAIN_SYMBOLS" (.int 265),gt "DISTANCE_SYMBOLS" (.int 25),gt "MOST_WINDOW" (.int 16777215),gt "MOST_LENGTH" (.int 64),
 gt "len" (.is (.builtin "len")),gt "max" (.is (.builtin "max")),gt "min" (.is (.builtin "min")),gt "abs" (.is (.builtin "abs")),gt "sum" (.is (.builtin "sum")),gt "sorted" (.is (.builtin "sorted")),
 gt "range" (.is (.type "range")),gt "reversed" (.is (.type "reversed")),gt "int" (.is (.type "int")),gt "list" (.is (.type "list")),
 gt "FormatError" (.ref 51),gt "ByteWriter" (.ref 98),gt "ByteReader" (.ref 168),gt "BitWriter" (.ref 203),gt "BitReader" (.ref 245),gt "Decoder" (.ref 306),
 gt "lightest" (.ref 256),gt "code_lengths" (.ref 263),gt "ordered_symbols" (.ref 268),gt "codes_of" (.ref 275),gt "is_complete" (.ref 282),gt "same_run" (.ref 317),gt "best_copy" (.ref 324),gt "key_at" (.ref 331),gt "tokens_of" (.ref 338),
 gt "main_symbol" (.ref 345),gt "count_symbols" (.ref 352),gt "write_tail" (.ref 359),gt "write_tokens" (.ref 366),gt "write_lengths" (.ref 371),gt "squeeze" (.ref 379),gt "read_lengths" (.ref 386),gt "read_tail" (.ref 393),gt "copy_back" (.ref 400),gt "unsqueeze" (.ref 408),
 gt "_law_draw" (.ref 415),gt "_law_pool" (.ref 420),gt "_law_same" (.ref 427),gt "_law_tokens_hold" (.ref 432)]
noncomputable def mt (c:Addr) (s:Str) (f:Addr):Addr×Str×Addr:=(c,s,f)
noncomputable def mtab:List (Addr×Str×Addr):=[mt 98 "byte" 74,mt 98 "number" 81,mt 168 "fail" 123,mt 168 "done" 130,mt 168 "byte" 137,mt 168 "number" 144,mt 168 "count" 151,mt 203 "bits" 193,mt 203 "finish" 200,mt 245 "bit" 228,mt 245 "bits" 235,mt 245 "finish" 242,mt 306 "symbol" 303]
noncomputable def mfind (c:Addr) (m:Str):List (Addr×Str×Addr)→Option Addr
 | []=>none
 | (c',m',f)::r=>bif Nat.beq c c'&&m == m' then some f else mfind c m r
noncomputable def atab:List (Addr×List Str):=[(98,["out"]),(168,["data","at"]),(203,["out","held","count"]),(245,["data","at","place"]),(306,["symbols","longest"])]
noncomputable def afind (c:Addr) (m:Str):List (Addr×List Str)→Bool
 | []=>false
 | (c',ms)::r=>bif Nat.beq c c' then ms.any (· == m) else afind c m r
noncomputable def ktab:List Addr:=[51,98,168,203,245,306,67,74,81,116,123,130,137,144,151,186,193,200,221,228,235,242,256,263,268,275,282,296,303,317,324,331,338,345,352,359,366,371,379,386,393,400,408,415,420,427,432,48]
noncomputable def okF:VS→Bool
 | .ref f=>ktab.any (Nat.beq f)
 | .is (.builtin _)=>true
 | .is (.type _)=>true
 | _=>false
noncomputable def lkp (x:Str):List (Str×VS)→Option VS
 | []=>none
 | (y,v)::r=>bif x == y then some v else lkp x r
noncomputable def putK (x:Str) (v:VS):Fr→(Fr→Prop)→Prop
 | [],_=>False
 | (y,u)::r,K=>bif x == y then K ((y,v)::r) else putK x v r fun r'=>K ((y,u)::r')
noncomputable def getL:Led→Nat→(Addr→OS→Prop)→Prop
 | [],_,_=>False
 | (a,o)::_,0,K=>K a o
 | _::r,n+1,K=>getL r n K
noncomputable def setL (o:OS):Led→Nat→(Led→Prop)→Prop
 | [],_,_=>False
 | (a,_)::r,0,K=>K ((a,o)::r)
 | p::r,n+1,K=>setL o r n fun r'=>K (p::r')
noncomputable def nany:VS→Bool | .any=>false | _=>true
noncomputable def tupOk (vs:List VS):Bool:=vs.all nany&&decide (vs.length≤1000000)
noncomputable def isIdx:Expr→Bool | .Slice ..=>false | _=>true
noncomputable def isTup:Expr→Bool | .Tuple ..=>true | _=>false
noncomputable def notCall:Expr→Bool | .Call _ [] _ _=>false | _=>true
noncomputable def noComp:Expr→Bool
 | .ListComp .. | .SetComp .. | .DictComp ..=>false
 | _=>true
noncomputable def plainT:Expr→Bool
 | .UnaryOp .Not _ _ | .BoolOp .. | .IfExp .. | .Compare ..=>false
 | _=>true
noncomputable def nthV (k:Int) (led:Led) (hs:Hs) (K:KE) (vs:List VS):Prop:=bif decide (0≤k)&&decide (k<1000000) then (match vs[k.toNat]? with | some v=>bif nany v then K v led hs else False | none=>False) else False
noncomputable def binI (op:Operator) (x y:Int) (led:Led) (hs:Hs) (K:KE):Prop:=match op with
 | .Add=>K (.int (x+y)) led hs
 | .Sub=>K (.int (x-y)) led hs
 | .Mult=>IntMulOk x y∧K (.int (x*y)) led hs
 | .Mod=>0<y∧K (.int (x % y)) led hs
 | .FloorDiv=>(0<y∧Builtin.divisionGoesByPylong x y=false)∧K (.int (x / y)) led hs
 | .LShift=>(0≤y∧y≤1000000∧x.natAbs<2 ^ 64)∧K (.int (x*2 ^ y.toNat)) led hs
 | .RShift=>0≤y∧K (.int (x / 2 ^ y.toNat)) led hs
 | _=>False
noncomputable def cmpT (op:CmpOp) (x y:Int) (P Q:Prop):Prop:=match op with
 | .Lt=>IfP (x<y) P Q
 | .LtE=>IfP (x≤y) P Q
 | .Gt=>IfP (x>y) P Q
 | .GtE=>IfP (x≥y) P Q
 | .Eq=>IfP (x=y) P Q
 | .NotEq=>IfP (x=y) Q P
 | _=>False
noncomputable def cmpV (op:CmpOp) (x y:Int) (K:VS→Prop):Prop:=match op with
 | .Lt=>K (.bool (decide (x<y)))
 | .LtE=>K (.bool (decide (x≤y)))
 | .Gt=>K (.bool (decide (x>y)))
 | .GtE=>K (.bool (decide (x≥y)))
 | .Eq=>K (.bool (decide (x=y)))
 | .NotEq=>K (.bool (decide (x≠y)))
 | _=>False
end
end Mine
namespace Mine
open PySem PySem.W PyProof.Rows PySem.Spec PySem.Calls
noncomputable def GOk (B:Bs) (x:Str) (v:VS):Prop:=∃ u,v.ok (some u)∧(nsIn (frag B.w.params) mainGlobals x=some (some u)∨(nsIn (frag B.w.params) mainGlobals x=some none∧bootBuiltins x=some u∧x ≠ "__name__"))
noncomputable def AllP {α:Type} (P:α→Prop):List α→Prop
 | []=>True
 | a::r=>P a∧AllP P r
theorem gtab_all (B:Bs):AllP (fun p=>GOk B p.1 p.2) gtab:=by
 unfold gtab gt
 repeat' first
  | exact trivial
  | refine And.intro ?_ ?_
  | exact ⟨_,⟨_,rfl⟩,.inl (by k_is)⟩
  | exact ⟨_,rfl,.inl (by k_is)⟩
  | exact ⟨_,rfl,.inr ⟨by k_is,by dsimp only; boot_by_name,by decide⟩⟩
noncomputable def KOk (B:Bs) (f:Addr):Prop:=keepIn (frag B.w.params) (.ref f)=true
theorem ktab_all (B:Bs):AllP (KOk B) ktab:=by
 unfold ktab
 repeat' first
  | exact trivial
  | refine And.intro ?_ ?_
  | (show keepIn _ _=true; k_is)
noncomputable def MOk (B:Bs) (c:Addr) (m:Str) (f:Addr):Prop:=plainGet (frag B.w.params) c m=true∧findIn (frag B.w.params) (.ref c) m=some (some (.ref f))∧isFn (frag B.w.params) (.ref f)=true∧keepIn (frag B.w.params) (.ref f)=true
theorem mtab_all (B:Bs):AllP (fun p=>MOk B p.1 p.2.1 p.2.2) mtab:=by
 unfold mtab mt
 repeat' first
  | exact trivial
  | exact ⟨by dsimp only; k_is,by dsimp only; k_is,by dsimp only; k_is,by dsimp only; k_is⟩
  | refine And.intro ?_ ?_
noncomputable def AOk (B:Bs) (c:Addr) (a:Str):Prop:=plainGet (frag B.w.params) c a=true∧hasDictIn (frag B.w.params) c=true∧findIn (frag B.w.params) (.ref c) a=some none∧takerIn (frag B.w.params) c a=some none
noncomputable def COk (B:Bs) (c:Addr):Prop:=findIn (frag B.w.params) (.ref c) "__setattr__" = some (some (.builtin "object.__setattr__"))∧plainOver (frag B.w.params) c=true
theorem atab_all (B:Bs):AllP (fun p=>COk B p.1∧AllP (fun a=>AOk B p.1 a) p.2) atab:=by
 unfold atab
 repeat' first
  | exact trivial
  | exact ⟨by dsimp only; k_is,by dsimp only; k_is,by dsimp only; k_is,by dsimp only; k_is⟩
  | exact ⟨by dsimp only; k_is,by dsimp only; k_is⟩
  | refine And.intro ?_ ?_
theorem AllP.get {α:Type} {P:α→Prop}:∀ {l:List α} {a:α},AllP P l→a∈l→P a
 | b::r,a,h,hm=>by
  rcases List.mem_cons.mp hm with rfl | hm
  ·exact h.1
  ·exact AllP.get h.2 hm
theorem lkp_mem {x:Str} {v:VS}:∀ {l:List (Str×VS)},lkp x l=some v→(x,v)∈l
 | (y,u)::r,h=>by
  unfold lkp at h
  cases e:x == y
  ·rw [e] at h; exact .tail _ (lkp_mem h)
  ·rw [e] at h
   cases h
   rw [eq_of_beq e]; exact .head _
theorem lkp_none {x:Str}:∀ {l:List (Str×VS)},lkp x l=none→x ∉ l.map (·.1)
 | [],_=>by simp
 | (y,u)::r,h=>by
  unfold lkp at h
  cases e:x == y
  ·rw [e] at h
   intro hm
   rcases List.mem_cons.mp hm with q | hm
   ·subst q; rw [beq_self_eq_true] at e; cases e
   ·exact lkp_none h hm
  ·rw [e] at h; cases h
theorem glob_ok {B:Bs} {x:Str} {v:VS} (h:lkp x gtab=some v):GOk B x v:=AllP.get (a:=(x,v)) (gtab_all B) (lkp_mem h)
theorem keep_ok {B:Bs} {f:Addr} (h:okF (.ref f)=true):keepIn (frag B.w.params) (.ref f)=true:=by
 obtain ⟨g,hg,e⟩:=List.any_eq_true.mp h
 rw [Nat.eq_of_beq_eq_true e]
 exact AllP.get (P:=KOk B) (ktab_all B) hg
theorem mfind_mem {c f:Addr} {m:Str}:∀ {l:List (Addr×Str×Addr)},mfind c m l=some f→(c,m,f)∈l
 | (c',m',f')::r,h=>by
  unfold mfind at h
  cases e:(Nat.beq c c'&&m == m')
  ·rw [e] at h; exact .tail _ (mfind_mem h)
  ·rw [e] at h
   cases h
   rw [Bool.and_eq_true] at e
   rw [Nat.eq_of_beq_eq_true e.1,eq_of_beq e.2]; exact .head _
theorem meth_ok {B:Bs} {c f:Addr} {m:Str} (h:mfind c m mtab=some f):MOk B c m f:=AllP.get (a:=(c,m,f)) (mtab_all B) (mfind_mem h)
theorem afind_mem {c:Addr} {m:Str}:∀ {l:List (Addr×List Str)},afind c m l=true→∃ ms,(c,ms)∈l∧m∈ms
 | (c',ms)::r,h=>by
  unfold afind at h
  cases e:Nat.beq c c'
  ·rw [e] at h
   obtain ⟨ms,h1,h2⟩:=afind_mem h
   exact ⟨ms,.tail _ h1,h2⟩
  ·rw [e] at h
   obtain ⟨y,hy,e2⟩:=List.any_eq_true.mp h
   rw [Nat.eq_of_beq_eq_true e]
   exact ⟨ms,.head _,eq_of_beq e2 ▸ hy⟩
theorem attr_ok {B:Bs} {c:Addr} {m:Str} (h:afind c m atab=true):COk B c∧AOk B c m:=by
 obtain ⟨ms,h1,h2⟩:=afind_mem h
 have:=AllP.get (a:=(c,ms)) (atab_all B) h1
 exact ⟨this.1,AllP.get this.2 h2⟩
theorem putK_ok {x:Str} {v:VS}:∀ {l:Fr} {K:Fr→Prop},putK x v l K→∃ l',Put x v l l'∧K l'
 | (y,u)::r,K,h=>by
  unfold putK at h
  cases e:x == y
  ·rw [e] at h
   obtain ⟨l',h1,h2⟩:=putK_ok (l:=r) h
   exact ⟨_,.miss h1,h2⟩
  ·rw [e] at h
   exact ⟨_,eq_of_beq e ▸ .hit,h⟩
theorem getL_ok {j:Nat} {led:Led} {P:Addr→OS→Prop} (h:getL led j P):∃ a o,led[j]?=some (a,o)∧P a o:=by
 induction led generalizing j with
 | nil=>exact h.elim
 | cons p r ih=>
  cases j with
  | zero=>exact ⟨p.1,p.2,rfl,h⟩
  | succ j=>exact ih h
theorem setL_ok {o' o:OS} {a:Addr} {j:Nat} {led:Led} {K:Led→Prop} (e:led[j]?=some (a,o)) (h:setL o' led j K):∃ led',Up a o o' led led'∧K led':=by
 induction led generalizing j K with
 | nil=>exact h.elim
 | cons p r ih=>
  cases j with
  | zero=>
   cases e
   exact ⟨_,.head,h⟩
  | succ j=>
   obtain ⟨l,h1,h2⟩:=ih (j:=j) e h
   exact ⟨_,.tail h1,h2⟩
theorem at_mem {led:Led} {j:Nat} {p:Addr×OS} (h:led[j]?=some p):p∈led:=List.mem_of_getElem? h
theorem all_ok {v:VS} {P:Value→Prop} (h:nany v=true) (k:∀ u,v.ok (some u)→P u):v.all P:=by
 cases v with
 | int i=>exact fun t=>k _ ⟨t,rfl⟩
 | str i=>exact fun t=>k _ ⟨t,rfl⟩
 | any=>cases h
 | _=>exact k _ rfl
theorem nany_real {v:VS} (h:v.real=true):nany v=true:=by cases v <;> first | rfl | cases h
theorem sub_idx {e:Expr} (h:isIdx e=true) (o i:Value):subscripted e false o i=operate [o,i] (getItem o i):=by
 cases e <;> first | rfl | cases h
theorem bif_t {b:Bool} {P:Prop} (h:bif b then P else False):b=true∧P:=by cases b <;> first | exact h.elim | exact ⟨rfl,h⟩
noncomputable def Cd (G:Prop):Type:={P:Prop // P→G}
section
variable {G:Prop}
noncomputable def Cd.no:Cd G:=⟨False,False.elim⟩
noncomputable def Cd.bif:(b:Bool)→(b=true→Cd G)→(b=false→Cd G)→Cd G
 | true,x,_=>x rfl
 | false,_,y=>y rfl
noncomputable def Cd.opt {α:Type}:(o:Option α)→(∀ a,o=some a→Cd G)→(o=none→Cd G)→Cd G
 | some a,x,_=>x a rfl
 | none,_,y=>y rfl
noncomputable def Cd.getL:(led:Led)→(j:Nat)→(∀ a o,led[j]?=some (a,o)→Cd G)→Cd G
 | [],_,_=>.no
 | (a,o)::_,0,f=>f a o rfl
 | _::r,j+1,f=>Cd.getL r j fun a o h=>f a o h
end
noncomputable abbrev EK {B:Bs} {nm:NM} {n:Nat} (C:Cx B nm n) (l:Fr) (K:KE) (Q:Value→Shared→Prop):Prop:=∀ v led' hs' s' u,K v led' hs'→v.ok (some u)→C.St l led' s'→Q u s'
section
variable {B:Bs} {nm:NM} {n:Nat} (C:Cx B nm n) (l:Fr) (led:Led)
theorem Cx.kind {C:Cx B nm n} {x:Str} {k:Option NameKind} (h:nm.lookup x=k):C.env.kindOf x=k:=by
 show C.env.scope.names.lookup x=k
 rw [C.hnm,h]
noncomputable def NmG (x:Str) (K:KE):Prop:=∀ (p:Pos) (Q:Value→Shared→Prop) (s:Shared),C.St l led s→EK C l K Q→wpAny (model B.prog B.w) C.A (eval (.Name x p) C.env) Q C.E s
noncomputable def nameG (x:Str) (hs:Hs) (K:KE) (hd:(x == ("__debug__" : Str))=false) (e:nm.lookup x=some .globalImplicit):Cd (NmG C l led x K):=
 Cd.opt (lkp x gtab) (fun v ev=>⟨K v led hs,fun h _ Q s H k=>let ⟨u,hu,q⟩:=glob_ok (B:=B) ev; q.elim (fun q=>ldK H C.hB.X C.hB.T q (k _ _ _ _ u h hu H) C.hk (Cx.kind e) C.hg hd) fun q=>ldB H C.hB.X C.hB.T q.1 q.2.1 q.2.2 (k _ _ _ _ u h hu H) C.hk (Cx.kind e) C.hg C.hb hd⟩) fun _=>.no
noncomputable def nameES (x:Str) (hs:Hs) (K:KE):Cd (NmG C l led x K):=Cd.bif (x == "__debug__") (fun _=>.no) fun hd=>Cd.opt (nm.lookup x) (fun k e=>match k,e with
 | .local,e=>Cd.opt (lkp x l) (fun v ev=>Cd.bif (nany v) (fun hn=>⟨K v led hs,fun h _ Q s H k=>ldL H (.head _) rfl (lkp_mem ev) (all_ok hn fun u hu=>k _ _ _ _ u h hu H) C.hk (Cx.kind e) hd⟩) fun _=>.no) fun _=>.no
 | .globalImplicit,e=>nameG C l led x hs K hd e
 | .cell,e=>(match hs with
  | .i j::hs=>Cd.getL led j fun a o e1=>(match o,e1 with
   | .cell v,e1=>Cd.bif (nany v) (fun hn=>⟨C.env.cells.lookup x=some a∧K v led hs,fun h _ Q s H k=>ldC H (.tail _ (at_mem e1)) h.1 (all_ok hn fun u hu=>k _ _ _ _ u h.2 hu H) C.hk (Cx.kind e) hd⟩) fun _=>.no
   | _,_=>.no)
  | _=>.no)
 | _,_=>.no) fun _=>.no
noncomputable def nameE (hs:Hs) (x:Str) (K:KE):Prop:=(nameES C l led x hs K).1
end
end Mine
namespace Mine
open PySem PySem.W PyProof.Rows PySem.Spec PySem.Calls
noncomputable section
noncomputable def truth (v:VS) (led:Led) (hs:Hs) (K:Bool→Led→Hs→Prop):Prop:=match v with
 | .bool b=>IfP (b=true) (K true led hs) (K false led hs)
 | _=>False
section
variable {B:Bs} {nm:NM} {n:Nat} {C:Cx B nm n} {r:Tk→Prop} {l:Fr} {led:Led} {hs:Hs} {s:Shared} {K:KE}
noncomputable abbrev TK (C:Cx B nm n) (l:Fr) (K:Bool→Led→Hs→Prop) (Q:Bool→Shared→Prop):Prop:=∀ b led' hs' s',K b led' hs'→C.St l led' s'→Q b s'
noncomputable abbrev SK (C:Cx B nm n) (K:KS) (Q:Flow→Shared→Prop):Prop:=∀ f l' led' hs' s' fl,K f l' led' hs'→f.ok fl→C.St l' led' s'→Q fl s'
theorem Cx.St.sub {led':Led} (H:C.St l led s) (h:Sub led' led):C.St l led' s:=Mine.St.sub H (.pick .head h)
theorem Cx.St.swap {p:Addr×OS} (H:Mine.St B (p::(C.env.locals,.ns l)::led) s):C.St l (p::led) s:=H.perm (.swap ..)
section
variable {Q:Value→Shared→Prop} {x y:Int} {t t':Tok}
theorem binI_ok {op:Operator} (H:C.St l led s) (h:binI op x y led hs K) (k:EK C l K Q):wpAny (model B.prog B.w) C.A (binaryOp op (.int x t) (.int y t')) Q C.E s:=by
 cases op
 case Add=>exact i_add H fun t s' H'=>k _ _ _ _ _ h ⟨t,rfl⟩ H'
 case Sub=>exact i_sub H fun t s' H'=>k _ _ _ _ _ h ⟨t,rfl⟩ H'
 case Mult=>exact i_mul H h.1 fun t s' H'=>k _ _ _ _ _ h.2 ⟨t,rfl⟩ H'
 case Mod=>exact i_mod H h.1 fun t s' H'=>k _ _ _ _ _ h.2 ⟨t,rfl⟩ H'
 case FloorDiv=>exact i_div H h.1.1 (.inl h.1.2) fun t s' H'=>k _ _ _ _ _ h.2 ⟨t,rfl⟩ H'
 case LShift=>exact i_shl H h.1.1 h.1.2.1 h.1.2.2 fun t s' H'=>k _ _ _ _ _ h.2 ⟨t,rfl⟩ H'
 case RShift=>exact i_shr H h.1 fun t s' H'=>k _ _ _ _ _ h.2 ⟨t,rfl⟩ H'
 all_goals exact h.elim
theorem cmpV_ok {op:CmpOp} (H:C.St l led s) (h:cmpV op x y fun v=>K v led hs) (k:EK C l K Q):wpAny (model B.prog B.w) C.A (compareOp op (.int x t) (.int y t')) Q C.E s:=by
 cases op
 case Lt=>exact lt_int (k _ _ _ _ _ h rfl H)
 case LtE=>exact le_int (k _ _ _ _ _ h rfl H)
 case Gt=>exact gt_int (k _ _ _ _ _ h rfl H)
 case GtE=>exact ge_int (k _ _ _ _ _ h rfl H)
 case Eq=>exact eqd_int (k _ _ _ _ _ h rfl H)
 case NotEq=>exact ned_int (k _ _ _ _ _ h rfl H)
 all_goals exact h.elim
end
theorem ifp {c P P':Prop} [Decidable c] {Q:Bool→Prop} (h:IfP c P P') (h1:P→Q true) (h2:P'→Q false):Q (decide c):=by
 by_cases e:c
 ·rw [decide_eq_true e]; exact h1 (h.t e)
 ·rw [decide_eq_false e]; exact h2 (h.f e)
theorem ifn {c P P':Prop} [Decidable c] {Q:Bool→Prop} (h:IfP c P P') (h1:P→Q false) (h2:P'→Q true):Q (decide ¬c):=by
 by_cases e:c
 ·rw [decide_eq_false (fun q=>q e)]; exact h1 (h.t e)
 ·rw [decide_eq_true e]; exact h2 (h.f e)
theorem cmpT_ok {op:CmpOp} {x y:Int} {t t':Tok} {K:Bool→Led→Hs→Prop} {Q:Bool→Shared→Prop} (H:C.St l led s) (h:cmpT op x y (K true led hs) (K false led hs)) (k:TK C l K Q):
  wpAny (model B.prog B.w) C.A (compareOp op (.int x t) (.int y t')) (fun c s₃=>wpAny (model B.prog B.w) C.A (truthy c) Q C.E s₃) C.E s:=by
 cases op
 case Lt=>exact lt_int (wpAny_truthy_bool (ifp (Q:=fun b=>Q b s) h (fun q=>k _ _ _ _ q H) fun q=>k _ _ _ _ q H))
 case LtE=>exact le_int (wpAny_truthy_bool (ifp (Q:=fun b=>Q b s) h (fun q=>k _ _ _ _ q H) fun q=>k _ _ _ _ q H))
 case Gt=>exact gt_int (wpAny_truthy_bool (ifp (Q:=fun b=>Q b s) h (fun q=>k _ _ _ _ q H) fun q=>k _ _ _ _ q H))
 case GtE=>exact ge_int (wpAny_truthy_bool (ifp (Q:=fun b=>Q b s) h (fun q=>k _ _ _ _ q H) fun q=>k _ _ _ _ q H))
 case Eq=>exact eqd_int (wpAny_truthy_bool (ifp (Q:=fun b=>Q b s) h (fun q=>k _ _ _ _ q H) fun q=>k _ _ _ _ q H))
 case NotEq=>exact ned_int (wpAny_truthy_bool (ifn (Q:=fun b=>Q b s) h (fun q=>k _ _ _ _ q H) fun q=>k _ _ _ _ q H))
 all_goals exact h.elim
theorem Cx.cl64 (C:Cx B nm n) (h:1≤n):C.A.units+64<cLine:=by have:=C.R.units; show C.A.units+64<9900; exact far [_,_] [] (.b (.p Z0 (.n 64)) (.n 9900)) [.a (.n 1) Z1,.b (.p (.p Z0 (.m 40 Z1)) (.n 40)) (.n 9900)] [1,40,1] (fm h (fm this fz)) rfl
theorem truth_ok {v:VS} {u:Value} {K:Bool→Led→Hs→Prop} {Q:Bool→Shared→Prop} (H:C.St l led s) (h:truth v led hs K) (hu:v.ok (some u)) (k:TK C l K Q):wpAny (model B.prog B.w) C.A (truthy u) Q C.E s:=by
 cases v with
 | bool b=>
  cases hu
  refine wpAny_truthy_bool ?_
  cases b with
  | true=>exact k _ _ _ _ (h.t rfl) H
  | false=>exact k _ _ _ _ (h.f (by decide)) H
 | _=>exact h.elim
theorem refs_at {as:List Addr} {k:Int} (h0:0≤k) (h1:k<as.length):(as.map VS.ref)[k.toNat]?=some (.ref (as.getD k.toNat 0)):=by
 have h:k.toNat<as.length:=by lia
 rw [List.getElem?_map,List.getD_eq_getElem?_getD,List.getElem?_eq_getElem h]; rfl
theorem nthV_ok {k:Int} {vs:List VS} (h:nthV k led hs K vs):0≤k∧k<2 ^ 40∧∃ v,vs[k.toNat]?=some v∧nany v=true∧K v led hs:=by
 unfold nthV at h
 obtain ⟨h1,h⟩:=bif_t h
 rw [Bool.and_eq_true,decide_eq_true_eq,decide_eq_true_eq] at h1
 refine ⟨h1.1,by lia,?_⟩
 cases e:vs[k.toNat]? with
 | none=>rw [e] at h; exact h.elim
 | some v=>
  rw [e] at h
  obtain ⟨h2,h⟩:=bif_t h
  exact ⟨v,rfl,h2,h⟩
theorem tup_ok {vs:List VS} (h:tupOk vs=true):vs.length≤1000000:=by
 unfold tupOk at h
 rw [Bool.and_eq_true] at h
 exact of_decide_eq_true h.2
end
section
variable {B:Bs} {nm:NM} {n:Nat} (C:Cx B nm n) (l:Fr) (led:Led) (op:Operator) (co:CmpOp) (hs:Hs) (K:KE) (KB:Bool→Led→Hs→Prop)
noncomputable def BiG (va vb:VS):Prop:=∀ (Q:Value→Shared→Prop) (s:Shared) u w,va.ok (some u)→vb.ok (some w)→C.St l led s→EK C l K Q→wpAny (model B.prog B.w) C.A (binaryOp op u w) Q C.E s
noncomputable def CwG (va vb:VS):Prop:=∀ (Q:Value→Shared→Prop) (s:Shared) u w,va.ok (some u)→vb.ok (some w)→C.St l led s→EK C l K Q→wpAny (model B.prog B.w) C.A (compareOp co u w) Q C.E s
theorem v_ii {x y:Int} {P:Value→Value→Prop} (f:∀ t t',P (.int x t) (.int y t')) (u w:Value) (hu:(VS.int x).ok (some u)) (hw:(VS.int y).ok (some w)):P u w:=by
 obtain ⟨t,e⟩:=hu
 obtain ⟨t',e'⟩:=hw
 cases e; cases e'; exact f t t'
theorem v_ri {a:Addr} {y:Int} {P:Value→Value→Prop} (f:∀ t',P (.ref a) (.int y t')) (u w:Value) (hu:(VS.ref a).ok (some u)) (hw:(VS.int y).ok (some w)):P u w:=by
 obtain ⟨t',e'⟩:=hw
 cases hu; cases e'; exact f t'
theorem v_rr {a b:Addr} {P:Value→Value→Prop} (f:P (.ref a) (.ref b)) (u w:Value) (hu:(VS.ref a).ok (some u)) (hw:(VS.ref b).ok (some w)):P u w:=by
 cases hu; cases hw; exact f
noncomputable def binVS (va vb:VS):Cd (BiG C l led op K va vb):=match va,vb with
 | .int x,.int y=>(match op,hs with
  | .Sub,.v k::hs=>⟨x-y=k∧K (.int k) led hs,fun h Q s=>v_ii fun t t' H q=>i_sub H fun t s' H'=>q _ _ _ _ _ h.2 ⟨t,by rw [h.1]⟩ H'⟩
  | .Sub,.x::hs=>⟨K (.int (x-y)) led hs,fun h Q s=>v_ii fun t t' H q=>i_sub H fun t s' H'=>q _ _ _ _ _ h ⟨t,rfl⟩ H'⟩
  | op,hs=>⟨binI op x y led hs K,fun h Q s=>v_ii fun t t' H q=>binI_ok H h q⟩)
 | .ref a,.int k=>(match op,hs with
  | .Mult,.i j::hs=>Cd.getL led j fun d o e1=>(match o,e1 with
   | .lst [.int x],e1=>⟨(a=d∧0≤k∧k≤1000000)∧∀ r,K (.ref r) ((r,ilst (List.replicate k.toNat x))::led) hs,fun h Q s=>v_ri fun t' H q=>l_mul1 H (.tail _ (h.1.1 ▸ at_mem e1)) h.1.2.1 h.1.2.2 fun r s' H'=>q _ _ _ _ _ (h.2 r) rfl (Cx.St.swap (by unfold ilst; rw [List.map_replicate]; exact H'))⟩
   | _,_=>.no)
  | _,_=>.no)
 | .ref a,.ref b=>(match op,hs with
  | .Add,.l ns::.l ms::hs=>⟨((a,ilst ns)∈led∧(b,ilst ms)∈led∧ns.length+ms.length≤1000000)∧∀ r,K (.ref r) ((r,ilst (ns++ms))::led) hs,fun h Q s=>v_rr fun H q=>l_add_ints H (.tail _ h.1.1) (.tail _ h.1.2.1) h.1.2.2 fun r s' H'=>q _ _ _ _ _ (h.2 r) rfl (Cx.St.swap H')⟩
  | _,_=>.no)
 | _,_=>.no
noncomputable def cmpWS (va vb:VS):Cd (CwG C l led co K va vb):=match va,vb with
 | .int x,.int y=>⟨cmpV co x y fun v=>K v led hs,fun h Q s=>v_ii fun t t' H q=>cmpV_ok H h q⟩
 | .ref a,.ref b=>(match co,hs with
  | .Eq,.l ns::.l ms::hs=>⟨(1≤n∧(a,ilst ns)∈led∧(b,ilst ms)∈led)∧K (.bool (decide (ns=ms))) led hs,fun h Q s=>v_rr fun H q=>l_eq_ints H (.tail _ h.1.2.1) (.tail _ h.1.2.2) (C.cl64 h.1.1) (q _ _ _ _ _ h.2 rfl H)⟩
  | .NotEq,.l ns::.l ms::hs=>⟨(1≤n∧(a,ilst ns)∈led∧(b,ilst ms)∈led)∧K (.bool (!decide (ns=ms))) led hs,fun h Q s=>v_rr fun H q=>l_ne_ints H (.tail _ h.1.2.1) (.tail _ h.1.2.2) (C.cl64 h.1.1) (q _ _ _ _ _ h.2 rfl H)⟩
  | _,_=>.no)
 | _,_=>.no
noncomputable def cmpBS (va vb:VS):Cd (CoP C l led co va vb KB):=match va,vb with
 | .int x,.int y=>⟨cmpT co x y (KB true led hs) (KB false led hs),fun h=>⟨fun Q s=>v_ii fun t t' H k=>cmpT_ok H h k⟩⟩
 | .ref a,.ref b=>(match co,hs with
  | .Eq,.l ns::.l ms::hs=>⟨(1≤n∧(a,ilst ns)∈led∧(b,ilst ms)∈led)∧IfP (ns=ms) (KB true led hs) (KB false led hs),fun h=>⟨fun Q s=>v_rr fun H k=>l_eq_ints H (.tail _ h.1.2.1) (.tail _ h.1.2.2) (C.cl64 h.1.1) (wpAny_truthy_bool (ifp (Q:=fun b=>Q b s) h.2 (fun q=>k _ _ _ _ q H) fun q=>k _ _ _ _ q H))⟩⟩
  | .NotEq,.l ns::.l ms::hs=>⟨(1≤n∧(a,ilst ns)∈led∧(b,ilst ms)∈led)∧IfP (ns=ms) (KB false led hs) (KB true led hs),fun h=>⟨fun Q s=>v_rr fun H k=>l_ne_ints H (.tail _ h.1.2.1) (.tail _ h.1.2.2) (C.cl64 h.1.1) (wpAny_truthy_bool (ifp (Q:=fun b=>Q (!b) s) h.2 (fun q=>k _ _ _ _ q H) fun q=>k _ _ _ _ q H))⟩⟩
  | co,_=>⟨CoP C l led co (.ref a) (.ref b) KB,id⟩)
 | .ref a,.none=>(match co with | .Is=>⟨KB false led hs,fun h=>⟨fun Q s u w hu hw H k=>by cases hu; cases hw; exact isn_ref (wpAny_truthy_bool (k _ _ _ _ h H))⟩⟩ | _=>.no)
 | .none,.none=>(match co with | .Is=>⟨KB true led hs,fun h=>⟨fun Q s u w hu hw H k=>by cases hu; cases hw; exact isn_none (wpAny_truthy_bool (k _ _ _ _ h H))⟩⟩ | _=>.no)
 | _,_=>.no
theorem itm_t {ve ie:Expr} {d:Addr} {k:Int} {vs:List VS} {hs:Hs} {K:KE} (hi:isIdx ie=true) (hm:(d,OS.tup vs)∈led) (h:nthV k led hs K vs):ItP C l led ve ie (.ref d) (.int k) K:=⟨fun Q s=>v_ri fun t H q=>by
 obtain ⟨h1,h2,v,h3,h4,h⟩:=nthV_ok h
 exact t_item H (.tail _ hm) h1 h2 h3 (all_ok h4 fun u hu=>q _ _ _ _ _ h hu H) (sub_idx hi _ _)⟩
theorem itm_l {ve ie:Expr} {d:Addr} {k:Int} {vs:List VS} {hs:Hs} {K:KE} (hi:isIdx ie=true) (hm:(d,OS.lst vs)∈led) (h:nthV k led hs K vs):ItP C l led ve ie (.ref d) (.int k) K:=⟨fun Q s=>v_ri fun t H q=>by
 obtain ⟨h1,h2,v,h3,h4,h⟩:=nthV_ok h
 exact l_item H (.tail _ hm) h1 h2 h3 (all_ok h4 fun u hu=>q _ _ _ _ _ h hu H) (sub_idx hi _ _)⟩
noncomputable def itemIS (ve ie:Expr) (d:Addr) (k:Int):Cd (isIdx ie=true→ItP C l led ve ie (.ref d) (.int k) K):=match hs with
 | .l ns::hs=>⟨((d,ilst ns)∈led∧0≤k∧k<ns.length∧ns.length<1000000)∧K (.int (ns.getD k.toNat 0)) led hs,fun h hi=>⟨fun Q s=>v_ri fun t H q=>l_item_ints H (.tail _ h.1.1) h.1.2.1 h.1.2.2.1 (Nat.lt_trans h.1.2.2.2 (by decide)) (fun t=>q _ _ _ _ _ h.2 ⟨t,rfl⟩ H) (sub_idx hi _ _)⟩⟩
 | .r as::hs=>⟨((d,.lst (as.map .ref))∈led∧0≤k∧k<as.length∧as.length<1000000)∧K (.ref (as.getD k.toNat 0)) led hs,fun h hi=>⟨fun Q s=>v_ri fun t H q=>l_item H (.tail _ h.1.1) h.1.2.1 (Int.lt_trans h.1.2.2.1 (Int.lt_trans (Int.ofNat_lt.mpr h.1.2.2.2) (by decide))) (refs_at h.1.2.1 h.1.2.2.1) (q _ _ _ _ _ h.2 rfl H) (sub_idx hi _ _)⟩⟩
 | .t vs::hs=>⟨(d,OS.tup vs)∈led∧nthV k led hs K vs,fun h hi=>itm_t C l led hi h.1 h.2⟩
 | .i j::hs=>Cd.getL led j fun a o e1=>(match o,e1 with
  | .tup vs,e1=>⟨a=d∧nthV k led hs K vs,fun h hi=>itm_t C l led hi (h.1 ▸ at_mem e1) h.2⟩
  | .lst vs,e1=>⟨a=d∧nthV k led hs K vs,fun h hi=>itm_l C l led hi (h.1 ▸ at_mem e1) h.2⟩
  | _,_=>.no)
 | _=>⟨ItP C l led ve ie (.ref d) (.int k) K,fun h _=>h⟩
noncomputable def AtG (a:Str) (ov:VS):Prop:=∀ (Q:Value→Shared→Prop) (s:Shared) u,ov.ok (some u)→C.St l led s→EK C l K Q→wpAny (model B.prog B.w) C.A (getAttr u a true) Q C.E s
noncomputable def kAtS (a:Str) (ov:VS):Cd (AtG C l led K a ov):=match ov,hs with
 | .ref d,.i j::.i j2::hs=>Cd.getL led j fun x o e1=>(match o,e1 with
  | .inst c dx,e1=>Cd.getL led j2 fun x2 o2 e2=>(match o2,e2 with
   | .attrs la,e2=>Cd.opt (lkp a la) (fun v ev=>Cd.bif (v.real&&afind c a atab) (fun hv=>⟨(x=d∧x2=dx)∧K v led hs,fun h Q s u hu H k=>by
     obtain ⟨⟨q5,q6⟩,h'⟩:=h
     subst q5 q6
     cases hu
     rw [Bool.and_eq_true] at hv
     obtain ⟨-,q1,q2,q3,-⟩:=attr_ok (B:=B) hv.2
     exact a_get H C.hB.X (.tail _ (at_mem e1)) (.tail _ (at_mem e2)) (lkp_mem ev) hv.1 q1 q2 q3 rfl fun s' H'=>all_ok (nany_real hv.1) fun u hu=>k _ _ _ _ _ h' hu H'⟩) fun _=>.no) fun _=>.no
   | _,_=>.no)
  | _,_=>.no)
 | _,_=>.no
noncomputable def bltVS (id:String) (vs:List VS):Cd (CallP C l led (.builtin id) vs K):=match vs with
 | [.int x]=>Cd.bif (id == "abs") (fun e=>⟨K (.int (if x<0 then -x else x)) led hs,fun h=>⟨fun Q s us hu H k=>by
   obtain ⟨t,rfl⟩:=oksI hu
   rw [eq_of_beq e]
   exact i_abs H fun t s' H'=>k _ _ _ _ _ h ⟨t,rfl⟩ H'⟩⟩) fun _=>⟨_,_root_.id⟩
 | [.int x,.int y]=>Cd.bif (id == "max") (fun e=>⟨K (.int (max x y)) led hs,fun h=>⟨fun Q s us hu H k=>by
   obtain ⟨t,t',rfl⟩:=oksII hu
   rw [eq_of_beq e]
   exact i_max H C.R.handled fun t s' H'=>k _ _ _ _ _ h ⟨t,rfl⟩ H'⟩⟩) fun _=>Cd.bif (id == "min") (fun e=>⟨K (.int (min x y)) led hs,fun h=>⟨fun Q s us hu H k=>by
   obtain ⟨t,t',rfl⟩:=oksII hu
   rw [eq_of_beq e]
   exact i_min H C.R.handled fun t s' H'=>k _ _ _ _ _ h ⟨t,rfl⟩ H'⟩⟩) fun _=>⟨_,_root_.id⟩
 | [.ref d]=>Cd.bif (id == "len") (fun e=>(match hs with
   | .l ns::hs=>⟨((d,ilst ns)∈led∧ns.length<1000000)∧K (.int ns.length) led hs,fun h=>⟨fun Q s us hu H k=>by
     obtain rfl:=oksR hu
     rw [eq_of_beq e]
     exact l_len_ints H (.tail _ h.1.1) (Nat.lt_trans h.1.2 (by decide)) fun t s' H'=>k _ _ _ _ _ h.2 ⟨t,rfl⟩ H'⟩⟩
   | .r as::hs=>⟨((d,.lst (as.map .ref))∈led∧as.length<1000000)∧K (.int as.length) led hs,fun h=>⟨fun Q s us hu H k=>by
     obtain rfl:=oksR hu
     rw [eq_of_beq e]
     exact l_len H (.tail _ h.1.1) (by rw [List.length_map]; exact Nat.lt_trans h.1.2 (by decide)) fun t s' H'=>k _ _ _ _ _ h.2 ⟨t,by rw [List.length_map]⟩ H'⟩⟩
   | _=>⟨_,_root_.id⟩)) fun _=>⟨_,_root_.id⟩
 | _=>⟨_,_root_.id⟩
end
end
end Mine
namespace Mine
open PySem PySem.W PyProof.Rows PySem.Spec PySem.Calls
noncomputable section
theorem star_each {e:Expr} {es:List Expr} {env:Env} (h:isStar e=false):starEach (e::es) env=(false,eval e env)::starEach es env:=by
 cases e <;> first | rfl | cases h
theorem star_any {env:Env}:∀ {es:List Expr},noStar es=true→(starEach es env).any (·.1)=false
 | [],_=>rfl
 | e::es,h=>by
  unfold noStar at h
  rw [List.all_cons,Bool.and_eq_true] at h
  rw [star_each (by simpa using h.1),List.any_cons,star_any (es:=es) h.2]; rfl
theorem back_any {p:Pos} {l:List (Bool×Sem Value)} (h:l.any (·.1)=false):(backTo p l).any (·.1)=false:=by
 cases l with
 | nil=>exact h
 | cons a r=>
  revert h
  unfold backTo
  simp
theorem noStar_cons {e:Expr} {es:List Expr} (h:noStar (e::es)=true):isStar e=false∧noStar es=true:=by
 unfold noStar at h
 rw [List.all_cons,Bool.and_eq_true] at h
 exact ⟨by simpa using h.1,h.2⟩
theorem meth_eq {o:Expr} {m:Str} {es:List Expr} {ap pos:Pos} {env:Env} (ho:notCall o=true) (hn:noStar es=true) (hl:es.length<20) (hp:(ap.endLine == pos.line)=true):
  eval (.Call (.Attribute o m ap) es [] pos) env=(do
   let ov ← eval o env
   standAt ap.atName
   let __x ← holding [ov] (getMethod ov m (do return (← importBound o env).getD true))
   match __x with
    | (f,first)=>callWith pos f first (backTo pos (starEach es env)) (backToKw pos (keywordEach [] env))):=by
 have e1:attributeBase o m env (eval o env)=eval o env:=by
  cases o with
  | Call f es _ _=>cases es with
   | nil=>cases ho
   | cons _ _=>cases f <;> rfl
  | _=>rfl
 have e2:eval (.Call (.Attribute o m ap) es [] pos) env=(do
  let ov ← attributeBase o m env (eval o env)
  standAt ap.atName
  methodCall o m ap pos env ov (es.length+0) (backTo pos (starEach es env)) (backToKw pos (keywordEach [] env))):=rfl
 have e3:methodCallForm (es.length+0) (backTo pos (starEach es env)) (backToKw pos (keywordEach [] env))=true:=by
  unfold methodCallForm
  have h1:(backTo pos (starEach es env)).all (fun x=>!x.1)=true:=by
   have:=back_any (p:=pos) (star_any (env:=env) hn)
   rw [List.all_eq_true]
   intro x hx
   rw [List.any_eq_false] at this
   simpa using this x hx
  rw [h1]
  show (true&&true&&decide (es.length+0+0<30))=true
  simp; lia
 rw [e2,e1]
 congr 1; funext ov
 congr 1; funext _
 unfold methodCall
 rw [e3]
 congr 1; funext x
 unfold methodCallPos
 rw [hp]
 rfl
section
variable {B:Bs} {nm:NM} {n:Nat} (C:Cx B nm n) (r:Tk→Prop)
noncomputable def kRet1 (l:Fr) (K:KS):KE:=fun v led hs=>K (.ret v) l led hs
noncomputable def kB2 (l:Fr) (op:Operator) (va:VS) (K:KE):KE:=fun vb led hs=>(binVS C l led op hs K va vb).1
noncomputable def kB1 (l:Fr) (b:Expr) (op:Operator) (K:KE):KE:=fun va led hs=>r (.E l led hs b (kB2 C l op va K))
noncomputable def kNeg (K:KE):KE:=fun v led hs=>match v with | .int x=>K (.int (-x)) led hs | _=>False
noncomputable def kC2 (l:Fr) (op:CmpOp) (va:VS) (K:KE):KE:=fun vb led hs=>(cmpWS C l led op hs K va vb).1
noncomputable def kC1 (l:Fr) (b:Expr) (op:CmpOp) (K:KE):KE:=fun va led hs=>r (.E l led hs b (kC2 C l op va K))
noncomputable def kT2 (l:Fr) (op:CmpOp) (va:VS) (K:Bool→Led→Hs→Prop):KE:=fun vb led hs=>(cmpBS C l led op hs K va vb).1
noncomputable def kT1 (l:Fr) (b:Expr) (op:CmpOp) (K:Bool→Led→Hs→Prop):KE:=fun va led hs=>r (.E l led hs b (kT2 C l op va K))
noncomputable def kTr (K:Bool→Led→Hs→Prop):KE:=fun v led hs=>truth v led hs K
noncomputable def kNot (K:Bool→Led→Hs→Prop):Bool→Led→Hs→Prop:=fun b led hs=>K (!b) led hs
noncomputable def kBT (l:Fr) (op:BoolOp) (es:List Expr) (pos:Pos) (K:Bool→Led→Hs→Prop):Bool→Led→Hs→Prop:=fun b led hs=>match op,b with
 | .And,true=>r (.T l led hs (.BoolOp .And es pos) K)
 | .And,false=>K false led hs
 | .Or,true=>K true led hs
 | .Or,false=>r (.T l led hs (.BoolOp .Or es pos) K)
noncomputable def kBo (l:Fr) (b:Expr) (K:KE):KE:=fun v led hs=>match v with
 | .bool c=>IfP (c=true) (r (.E l led hs b K)) (K (.bool false) led hs)
 | _=>False
noncomputable def kIf (l:Fr) (a b:Expr) (K:KE):Bool→Led→Hs→Prop:=fun c led hs=>match c with
 | true=>r (.E l led hs a K)
 | false=>r (.E l led hs b K)
noncomputable def kA2 (v:VS) (K:List VS→Led→Hs→Prop):List VS→Led→Hs→Prop:=fun vs led hs=>K (v::vs) led hs
noncomputable def kA1 (l:Fr) (es:List Expr) (K:List VS→Led→Hs→Prop):KE:=fun v led hs=>r (.A l led hs es (kA2 v K))
noncomputable def kTup (K:KE):List VS→Led→Hs→Prop:=fun vs led hs=>bif tupOk vs then ∀ a,K (.ref a) ((a,.tup vs)::led) hs else False
noncomputable def kLst (K:KE):List VS→Led→Hs→Prop:=fun vs led hs=>bif tupOk vs then ∀ a,K (.ref a) ((a,.lst vs)::led) hs else False
noncomputable def kF2 (l:Fr) (fv:VS) (K:KE):List VS→Led→Hs→Prop:=fun vs led hs=>match fv with
 | .ref f=>CallP C l led (.ref f) vs K
 | .is (.builtin s)=>(bltVS C l led hs K s vs).1
 | .is (.type s)=>CallP C l led (.type s) vs K
 | _=>False
noncomputable def kF1 (l:Fr) (es:List Expr) (K:KE):KE:=fun fv led hs=>bif okF fv then r (.A l led hs es (kF2 C l fv K)) else False
noncomputable def kM2 (l:Fr) (f d:Addr) (K:KE):List VS→Led→Hs→Prop:=fun vs led hs=>CallP C l led (.ref f) (.ref d::vs) K
noncomputable def kBm (l:Fr) (id:String) (d:Addr) (K:KE):List VS→Led→Hs→Prop:=fun vs led hs=>CallP C l led (.builtin id) (.ref d::vs) K
noncomputable def kAppS (l:Fr) (d:Addr) (j:Nat) (ns:List Int) (K:KE) (vs:List VS) (led:Led) (hs:Hs):Cd (CallP C l led (.builtin "list.append") (.ref d::vs) K):=match vs with
 | [.int k]=>⟨(ns.length≤1000000)∧getL led j fun a o=>(a,o)=(d,ilst ns)∧setL (ilst (ns++[k])) led j fun led'=>K .none led' hs,fun h=>⟨fun Q s us hu H q=>by
   obtain ⟨a,o,e1,e2,q5⟩:=getL_ok h.2
   rw [e2] at e1
   obtain ⟨led3,U,q6⟩:=setL_ok e1 q5
   obtain ⟨t,rfl⟩:=oksRI hu
   exact l_append_ints H (.tail U) h.1 fun s3 H3=>q _ _ _ _ _ q6 rfl H3⟩⟩
 | _=>.no
noncomputable def kApp (l:Fr) (d:Addr) (j:Nat) (ns:List Int) (K:KE):List VS→Led→Hs→Prop:=fun vs led hs=>(kAppS C l d j ns K vs led hs).1
noncomputable def kAppLS (l:Fr) (d:Addr) (K:KE) (vs:List VS) (led:Led) (hs:Hs):Cd (CallP C l led (.builtin "list.append") (.ref d::vs) K):=match vs,hs with
 | [v],.i j::hs=>Cd.getL led j fun a o e3=>(match o,e3 with
  | .lst ws,e3=>⟨(d=a∧ws.length≤1000000)∧setL (.lst (ws++[v])) led j fun led'=>K .none led' hs,fun h=>⟨fun Q s us hu H q=>by
    obtain ⟨⟨g3,g4⟩,q5⟩:=h
    subst g3
    obtain ⟨led3,U,q6⟩:=setL_ok e3 q5
    obtain ⟨us2,rfl,hu2⟩:=oksC_ref hu
    obtain ⟨u,rfl,e⟩:=oks1 hu2
    exact l_append H (.tail U) g4 e fun s3 H3=>q _ _ _ _ _ q6 rfl H3⟩⟩
  | _,_=>.no)
 | _,_=>.no
noncomputable def kAppL (l:Fr) (d:Addr) (K:KE):List VS→Led→Hs→Prop:=fun vs led hs=>(kAppLS C l d K vs led hs).1
noncomputable abbrev IHr:Prop:=∀ t,r t→t.ok C
noncomputable def MeG (l:Fr) (led:Led) (m:Str) (es:List Expr) (ov:VS) (K:KE):Prop:=IHr C r→noStar es=true→∀ (pos:Pos) (pl:Sem Bool) (Q:Value→Shared→Prop) (s:Shared) u,ov.ok (some u)→C.St l led s→EK C l K Q→
 wpAny (model B.prog B.w) C.A (getMethod u m pl) (fun fx s₂=>wpAny (model B.prog B.w) C.A (callWith pos fx.1 fx.2 (backTo pos (starEach es C.env)) []) Q C.E s₂) C.E s
variable {C} {r} {l:Fr} {led:Led} {K:KE} {hs:Hs} {s:Shared}
theorem bm_ok {id:String} {d:Addr} {es:List Expr} {pos:Pos} {KA:List VS→Led→Hs→Prop} {Q:Value→Shared→Prop} (hK:∀ vs led hs,KA vs led hs→CallP C l led (.builtin id) (.ref d::vs) K) (IH:IHr C r) (hn:noStar es=true) (h:r (.A l led hs es KA)) (H:C.St l led s) (k:EK C l K Q):
  wpAny (model B.prog B.w) C.A (callWith pos (.builtin id) [.ref d] (backTo pos (starEach es C.env)) []) Q C.E s:=
 cwb1 (back_any (p:=pos) (star_any (env:=C.env) hn)) (IH _ h hn pos _ s H fun vs led2 hs2 s2 us q2 hus H2=>(hK _ _ _ q2).ok _ _ (.ref d::us) ⟨rfl,hus⟩ H2 k)
theorem mb {id:String} {d:Addr} {m:Str} {es:List Expr} {o:Led→Prop} (f:∀ (pos:Pos) (pl:Sem Bool) (Q:Value×List Value→Shared→Prop) (s:Shared),o led→C.St l led s→Q (.builtin id,[.ref d]) s→wpAny (model B.prog B.w) C.A (getMethod (.ref d) m pl) Q C.E s) {KA:List VS→Led→Hs→Prop}
  (hK:∀ vs led hs,KA vs led hs→CallP C l led (.builtin id) (.ref d::vs) K) (h:o led∧r (.A l led hs es KA)):MeG C r l led m es (.ref d) K:=fun IH hn pos pl Q s u hu H k=>by
 cases hu
 exact f pos pl _ s h.1 H (bm_ok hK IH hn h.2 H k)
variable (C) (r)
noncomputable def kM1S (l:Fr) (m:Str) (es:List Expr) (K:KE) (ov:VS) (led:Led) (hs:Hs):Cd (MeG C r l led m es ov K):=match ov with
 | .int x=>Cd.bif (m == "bit_length" && es.isEmpty) (fun e=>⟨K (.int (Builtin.Int.intBits x)) led hs,fun h IH hn pos pl Q s u hu H k=>by
   obtain ⟨t,e'⟩:=hu
   cases e'
   rw [Bool.and_eq_true] at e
   rw [eq_of_beq e.1]
   cases es with
   | cons _ _=>cases e.2
   | nil=>exact i_meth_bl (cwb1 (back_any (p:=pos) (star_any (env:=C.env) hn)) (sp_nil (i_bl H fun t s2 H2=>k _ _ _ _ _ h ⟨t,rfl⟩ H2)))⟩) fun _=>.no
 | .ref d=>(match hs with
  | .m::hs=>Cd.bif (m == "pop") (fun e=>⟨(∃ vs,(d,OS.lst vs)∈led)∧r (.A l led hs es (kBm C l "list.pop" d K)),eq_of_beq e ▸ mb (o:=fun led=>∃ vs,(d,OS.lst vs)∈led) (fun _ _ _ _ ⟨_,hm⟩ H q=>l_meth_pop H (.tail _ hm) q) fun _ _ _ q=>q⟩) fun _=>
   Cd.bif (m == "get") (fun e=>⟨(∃ kvs,(d,idic B kvs)∈led)∧r (.A l led hs es (kBm C l "dict.get" d K)),eq_of_beq e ▸ mb (o:=fun led=>∃ kvs,(d,idic B kvs)∈led) (fun _ _ _ _ ⟨_,hm⟩ H q=>d_meth_get H (.tail _ hm) q) fun _ _ _ q=>q⟩) fun _=>
   Cd.bif (m == "setdefault") (fun e=>⟨(∃ kvs,(d,idic B kvs)∈led)∧r (.A l led hs es (kBm C l "dict.setdefault" d K)),eq_of_beq e ▸ mb (o:=fun led=>∃ kvs,(d,idic B kvs)∈led) (fun _ _ _ _ ⟨_,hm⟩ H q=>d_meth_setdef H (.tail _ hm) q) fun _ _ _ q=>q⟩) fun _=>
   Cd.bif (m == "items") (fun e=>⟨(∃ kvs,(d,idic B kvs)∈led)∧r (.A l led hs es (kBm C l "dict.items" d K)),eq_of_beq e ▸ mb (o:=fun led=>∃ kvs,(d,idic B kvs)∈led) (fun _ _ _ _ ⟨_,hm⟩ H q=>d_meth_items H (.tail _ hm) q) fun _ _ _ q=>q⟩) fun _=>
   Cd.bif (m == "append") (fun e=>⟨(∃ vs,(d,OS.lst vs)∈led)∧r (.A l led hs es (kBm C l "list.append" d K)),eq_of_beq e ▸ mb (o:=fun led=>∃ vs,(d,OS.lst vs)∈led) (fun _ _ _ _ ⟨_,hm⟩ H q=>l_meth_append H (.tail _ hm) q) fun _ _ _ q=>q⟩) fun _=>.no
  | .u j ns::hs=>Cd.bif (m == "append") (fun e=>⟨(d,ilst ns)∈led∧r (.A l led hs es (kApp C l d j ns K)),eq_of_beq e ▸ mb (o:=fun led=>(d,ilst ns)∈led) (fun _ _ _ _ hm H q=>l_meth_append_i H (.tail _ hm) q) fun vs led hs q=>(kAppS C l d j ns K vs led hs).2 q⟩) fun _=>.no
  | .i j::hs=>Cd.getL led j fun a o e1=>(match o,e1 with
   | .inst c dx,e1=>(match hs with
    | .i j2::hs=>Cd.getL led j2 fun a2 o2 e2=>(match o2,e2 with
     | .attrs la,e2=>Cd.opt (mfind c m mtab) (fun f ef=>Cd.bif (lkp m la).isNone (fun g1=>⟨(a=d∧a2=dx)∧r (.A l led hs es (kM2 C l f d K)),fun h IH hn pos pl Q s u hu H k=>by
       obtain ⟨⟨g3,g4⟩,q3⟩:=h
       subst g3 g4
       cases hu
       obtain ⟨m1,m2,m3,m4⟩:=meth_ok (B:=B) ef
       exact a_meth H C.hB.X (.tail _ (at_mem e1)) (.tail _ (at_mem e2)) (lkp_none (Option.isNone_iff_eq_none.mp g1)) m1 m2 m3 (cwr1 C.hB.X m4 (back_any (p:=pos) (star_any (env:=C.env) hn)) (IH _ q3 hn pos _ s H fun vs led2 hs2 s2 us q4 hus H2=>then_ H2 (q4.ok _ _ _ ⟨rfl,hus⟩ H2 k)))⟩) fun _=>.no) fun _=>.no
     | _,_=>.no)
    | _=>.no)
   | .lst ws,e1=>Cd.bif (m == "append") (fun e=>⟨a=d∧r (.A l led hs es (kAppL C l d K)),fun h=>eq_of_beq e ▸ mb (o:=fun led=>a=d) (fun _ _ _ _ e3 H q=>l_meth_append H (.tail _ (e3 ▸ at_mem e1)) q) (fun vs led hs q=>(kAppLS C l d K vs led hs).2 q) h⟩) fun _=>.no
   | _,_=>.no)
  | _=>.no)
 | _=>.no
noncomputable def kM1 (l:Fr) (m:Str) (es:List Expr) (K:KE):KE:=fun ov led hs=>(kM1S C r l m es K ov led hs).1
noncomputable def kS2S (l:Fr) (ve ie:Expr) (ov:VS) (K:KE) (iv:VS) (led:Led) (hs:Hs):Cd (isIdx ie=true→ItP C l led ve ie ov iv K):=match ov,iv with
 | .ref d,.int k=>itemIS C l led hs K ve ie d k
 | _,_=>⟨ItP C l led ve ie _ _ K,fun h _=>h⟩
noncomputable def kS2 (l:Fr) (ve ie:Expr) (ov:VS) (K:KE):KE:=fun iv led hs=>(kS2S C l ve ie ov K iv led hs).1
noncomputable def kS1 (l:Fr) (ve ie:Expr) (K:KE):KE:=fun ov led hs=>r (.E l led hs ie (kS2 C l ve ie ov K))
noncomputable def kAt (l:Fr) (a:Str) (K:KE):KE:=fun ov led hs=>(kAtS C l led hs K a ov).1
variable {C} {r} (IH:IHr C r)
include IH
theorem callN_ok {x:Str} {p pos:Pos} {es:List Expr} {Q:Value→Shared→Prop} (hn:noStar es=true) (h:r (.E l led hs (.Name x p) (kF1 C r l es K))) (H:C.St l led s) (k:EK C l K Q):wpAny (model B.prog B.w) C.A (eval (.Call (.Name x p) es [] pos) C.env) Q C.E s:=by
 refine wpAny_Call_NameR (IH _ h _ s H fun fv led' hs' s' u q hu H'=>?_)
 unfold kF1 at q
 obtain ⟨ho,q⟩:=bif_t q
 have hp:=back_any (p:=pos) (star_any (env:=C.env) hn)
 cases fv with
 | ref f=>
  cases hu
  refine cwr0 C.hB.X (keep_ok ho) hp (IH _ q hn pos _ s' H' fun vs led2 hs2 s2 us q2 hus H2=>then_ H2 ?_)
  exact q2.ok _ _ us hus H2 k
 | is w=>
  obtain rfl:=Option.some.inj hu
  cases u with
  | builtin id=>exact cwb0 hp (IH _ q hn pos _ s' H' fun vs led2 hs2 s2 us q2 hus H2=>((bltVS C l led2 hs2 K id vs).2 q2).ok _ _ us hus H2 k)
  | type id=>exact cwt0 hp (IH _ q hn pos _ s' H' fun vs led2 hs2 s2 us q2 hus H2=>q2.ok _ _ us hus H2 k)
  | _=>cases ho
 | _=>cases ho
theorem kIf_ok {a b:Expr} {c:Bool} {Q:Value→Shared→Prop} (h:kIf r l a b K c led hs) (H:C.St l led s) (k:EK C l K Q):if c=true then wpAny (model B.prog B.w) C.A (eval a C.env) Q C.E s else wpAny (model B.prog B.w) C.A (eval b C.env) Q C.E s:=by
 cases c with
 | true=>exact IH _ h _ s H k
 | false=>exact IH _ h _ s H k
omit IH
variable (C) (r)
noncomputable def constES (l:Fr) (led:Led) (hs:Hs) (c:Const) (i:Nat) (p:Pos) (K:KE):Cd (EvP C l led (.Constant c i p) K):=match c with
 | .int i=>⟨K (.int i) led hs,fun h=>⟨fun Q s H k=>c_int H fun t s' H'=>k _ _ _ _ _ h ⟨t,rfl⟩ H'⟩⟩
 | .bool b=>⟨K (.bool b) led hs,fun h=>⟨fun Q s H k=>wpAny_Constant_bool (k _ _ _ _ _ h rfl H)⟩⟩
 | .none=>⟨K .none led hs,fun h=>⟨fun Q s H k=>wpAny_Constant_none (k _ _ _ _ _ h rfl H)⟩⟩
 | .str x=>⟨K (.str x) led hs,fun h=>⟨fun Q s H k=>c_str H fun t s' H'=>k _ _ _ _ _ h ⟨t,rfl⟩ H'⟩⟩
 | _=>.no
noncomputable abbrev EvC (l:Fr) (led:Led) (e:Expr) (K:KE):Type:=Cd (IHr C r→EvP C l led e K)
noncomputable def binES (l:Fr) (led:Led) (hs:Hs) (a b:Expr) (op:Operator) (p:Pos) (K:KE):EvC C r l led (.BinOp a op b p) K:=⟨r (.E l led hs a (kB1 C r l b op K)),fun h IH=>⟨fun Q s H k=>wpAny_BinOp (IH _ h _ s H fun va led1 hs1 s1 u q hu H1=>IH _ q _ s1 H1 fun vb led2 hs2 s2 w q2 hw H2=>(binVS C l led2 op hs2 K va vb).2 q2 _ _ _ _ hu hw H2 k)⟩⟩
noncomputable def unES (l:Fr) (led:Led) (hs:Hs) (op:UnaryOp) (a:Expr) (p:Pos) (K:KE):EvC C r l led (.UnaryOp op a p) K:=match op with
 | .USub=>⟨r (.E l led hs a (kNeg K)),fun h IH=>⟨fun Q s H k=>wpAny_UnaryOp (IH _ h _ s H fun va led1 hs1 s1 u q hu H1=>by
   cases va with
   | int x=>
    obtain ⟨t,e⟩:=hu
    cases e
    exact i_neg H1 fun t s' H'=>k _ _ _ _ _ q ⟨t,rfl⟩ H'
   | _=>exact q.elim)⟩⟩
 | _=>.no
noncomputable def coES (l:Fr) (led:Led) (hs:Hs) (a:Expr) (ops:List CmpOp) (bs:List Expr) (p:Pos) (K:KE):EvC C r l led (.Compare a ops bs p) K:=match ops,bs with
 | [op],[b]=>Cd.bif (behindInMarks op b) (fun _=>.no) fun hb=>⟨r (.E l led hs a (kC1 C r l b op K)),fun h IH=>⟨fun Q s H k=>wpAny_Compare1 (IH _ h _ s H fun va led1 hs1 s1 u q hu H1=>IH _ q _ s1 H1 fun vb led2 hs2 s2 w q2 hw H2=>(cmpWS C l led2 op hs2 K va vb).2 q2 _ _ _ _ hu hw H2 k) hb⟩⟩
 | _,_=>.no
noncomputable def boES (l:Fr) (led:Led) (hs:Hs) (op:BoolOp) (es:List Expr) (p:Pos) (K:KE):EvC C r l led (.BoolOp op es p) K:=match op,es with
 | .And,[a,b]=>⟨r (.E l led hs a (kBo r l b K)),fun h IH=>⟨fun Q s H k=>BoolOp_and (IH _ h _ s H fun v led1 hs1 s1 u q hu H1=>by
   cases v with
   | bool c=>
    cases hu
    refine wpAny_truthy_bool ?_
    cases c with
    | true=>exact BoolOp_one (IH _ (q.t rfl) _ s1 H1 k)
    | false=>exact k _ _ _ _ _ (q.f (by decide)) rfl H1
   | _=>exact q.elim)⟩⟩
 | _,_=>⟨_,fun h _=>h⟩
noncomputable def caES (l:Fr) (led:Led) (hs:Hs) (f:Expr) (es:List Expr) (kw:List Keyword) (pos:Pos) (K:KE):EvC C r l led (.Call f es kw pos) K:=match f,kw with
 | .Name x p,[]=>Cd.bif (noStar es) (fun hn=>⟨r (.E l led hs (.Name x p) (kF1 C r l es K)),fun h IH=>⟨fun Q s H k=>callN_ok IH hn h H k⟩⟩) fun _=>.no
 | .Attribute o m ap,[]=>Cd.bif (noStar es&&decide (es.length<20)&&ap.endLine == pos.line&&notCall o) (fun e1=>⟨r (.E l led hs o (kM1 C r l m es K)),fun h IH=>⟨fun Q s H k=>by
   rw [Bool.and_eq_true,Bool.and_eq_true,Bool.and_eq_true,decide_eq_true_eq] at e1
   exact ev_meth (IH _ h _ s H fun ov led2 hs2 s' u q hu H'=>(kM1S C r l m es K ov led2 hs2).2 q IH e1.1.1.1 _ _ Q s' u hu H' k) (meth_eq e1.2 e1.1.1.1 e1.1.1.2 e1.1.2)⟩⟩) fun _=>⟨_,fun h _=>h⟩
 | _,_=>⟨_,fun h _=>h⟩
noncomputable def ifES (l:Fr) (led:Led) (hs:Hs) (t a b:Expr) (p:Pos) (K:KE):EvC C r l led (.IfExp t a b p) K:=match hs with
 | .j::_=>⟨_,fun h _=>h⟩
 | hs=>⟨r (.T l led hs t (kIf r l a b K)),fun h IH=>⟨fun Q s H k=>wpAny_IfExp (IH _ h _ s H fun c led1 hs1 s1 q H1=>kIf_ok IH q H1 k)⟩⟩
noncomputable def atES (l:Fr) (led:Led) (hs:Hs) (o:Expr) (a:Str) (p:Pos) (K:KE):EvC C r l led (.Attribute o a p) K:=match o with
 | .Name x p=>⟨r (.E l led hs (.Name x p) (kAt C l a K)),fun h IH=>⟨fun Q s H k=>Attribute_name (IH _ h _ s H fun va led1 hs1 s1 u q hu H1=>(kAtS C l led1 hs1 K a va).2 q _ _ _ hu H1 k)⟩⟩
 | _=>.no
noncomputable def suES (l:Fr) (led:Led) (hs:Hs) (o i:Expr) (p:Pos) (K:KE):EvC C r l led (.Subscript o i p) K:=Cd.bif (isIdx i) (fun e1=>⟨r (.E l led hs o (kS1 C r l o i K)),fun h IH=>⟨fun Q s H k=>Subscript_ (IH _ h _ s H fun ov led1 hs1 s1 u q hu H1=>IH _ q _ s1 H1 fun iv led2 hs2 s2 w q2 hw H2=>((kS2S C l o i ov K iv led2 hs2).2 q2 e1).ok _ _ _ _ hu hw H2 k)⟩⟩) fun _=>⟨_,fun h _=>h⟩
noncomputable def tuES (l:Fr) (led:Led) (hs:Hs) (es:List Expr) (c:Nat) (p:Pos) (K:KE):EvC C r l led (.Tuple es c p) K:=Cd.bif (noStar es) (fun hn=>⟨r (.A l led hs es (kTup K)),fun h IH=>⟨fun Q s H k=>Tuple_ (IH _ h hn _ _ s H fun vs led1 hs1 s1 us q hus H1=>let ⟨hz,q⟩:=bif_t q; t_new H1 hus (tup_ok hz) fun a s' H'=>k _ _ _ _ _ (q a) rfl (Cx.St.swap H'))⟩⟩) fun _=>.no
noncomputable def liES (l:Fr) (led:Led) (hs:Hs) (es:List Expr) (p:Pos) (K:KE):EvC C r l led (.List es p) K:=Cd.bif (noStar es) (fun hn=>⟨r (.A l led hs es (kLst K)),fun h IH=>⟨fun Q s H k=>List_ (IH _ h hn _ _ s H fun vs led1 hs1 s1 us q hus H1=>let ⟨hz,q⟩:=bif_t q; l_new H1 hus (tup_ok hz) fun a s' H'=>k _ _ _ _ _ (q a) rfl (Cx.St.swap H'))⟩⟩) fun _=>.no
noncomputable def stES (l:Fr) (led:Led) (hs:Hs) (e:Expr) (K:KE):EvC C r l led e K:=match e with
 | .Name x p=>⟨nameE C l led hs x K,fun h _=>⟨fun Q s H k=>(nameES C l led x hs K).2 h p Q s H k⟩⟩
 | .Constant c i p=>⟨(constES C l led hs c i p K).1,fun h _=>(constES C l led hs c i p K).2 h⟩
 | .BinOp a op b p=>binES C r l led hs a b op p K
 | .UnaryOp op a p=>unES C r l led hs op a p K
 | .Compare a ops bs p=>coES C r l led hs a ops bs p K
 | .IfExp t a b p=>ifES C r l led hs t a b p K
 | .BoolOp op es p=>boES C r l led hs op es p K
 | .Call f es kw pos=>caES C r l led hs f es kw pos K
 | .Attribute o a p=>atES C r l led hs o a p K
 | .Subscript o i p=>suES C r l led hs o i p K
 | .Tuple es c p=>tuES C r l led hs es c p K
 | .List es p=>liES C r l led hs es p K
 | _=>⟨_,fun h _=>h⟩
noncomputable def stE (l:Fr) (led:Led) (hs:Hs) (e:Expr) (K:KE):Prop:=(stES C r l led hs e K).1
noncomputable def stA (l:Fr) (led:Led) (hs:Hs) (es:List Expr) (K:List VS→Led→Hs→Prop):Prop:=match es with
 | []=>K [] led hs
 | e::es=>r (.E l led hs e (kA1 r l es K))
variable {C} {r} (IH:IHr C r)
include IH
theorem stA_ok {es:List Expr} {K:List VS→Led→Hs→Prop} (h:stA r l led hs es K):(Tk.A l led hs es K).ok C:=fun hn pos Q s H k=>by
 cases es with
 | nil=>exact sp_nil (k _ _ _ _ _ h trivial H)
 | cons e es=>
  obtain ⟨h1,h2⟩:=noStar_cons hn
  refine sp_cons (star_each h1) (IH _ h _ s H fun v led' hs' s' u q hu H'=>?_)
  exact IH _ q h2 pos _ s' H' fun vs led2 hs2 s2 us q2 hus H2=>k _ _ _ _ _ q2 ⟨hu,hus⟩ H2
theorem stE_ok {e:Expr} (h:stE C r l led hs e K):(Tk.E l led hs e K).ok C:=((stES C r l led hs e K).2 h IH).ok
end
end
end Mine
namespace Mine
open PySem PySem.W PyProof.Rows PySem.Spec PySem.Calls
noncomputable section
theorem plain_eq {e:Expr} {env:Env} {whole:Sem Value} (h:plainT e=true):isTrue e env whole=(do let v ← whole; standAt e.pos; holding [v] (truthy v)):=by
 cases e with
 | UnaryOp op x p=>cases op <;> first | rfl | cases h
 | BoolOp _ _ _=>cases h
 | IfExp _ _ _ _=>cases h
 | Compare _ _ _ _=>cases h
 | _=>rfl
noncomputable def isLoc (nm:NM) (x:Str):Bool:=match nm.lookup x with | some .local=>!(x == "__debug__") | _=>false
noncomputable def isCell (nm:NM) (x:Str):Bool:=match nm.lookup x with | some .cell=>!(x == "__debug__") | _=>false
theorem isLoc_of {nm:NM} {x:Str} (h:isLoc nm x=true):nm.lookup x=some .local∧(x == ("__debug__" : Str))=false:=by
 unfold isLoc at h
 cases e:nm.lookup x with
 | none=>rw [e] at h; cases h
 | some k=>
  rw [e] at h
  cases k with
  | «local»=>exact ⟨rfl,by simpa using h⟩
  | _=>cases h
theorem isCell_of {nm:NM} {x:Str} (h:isCell nm x=true):nm.lookup x=some .cell∧(x == ("__debug__" : Str))=false:=by
 unfold isCell at h
 cases e:nm.lookup x with
 | none=>rw [e] at h; cases h
 | some k=>
  rw [e] at h
  cases k with
  | cell=>exact ⟨rfl,by simpa using h⟩
  | _=>cases h
theorem noComp_swaps {e:Expr} {t:Option Expr} {k:Nat} {env:Env} (h:noComp e=true):swapsWith e t k env=pure false:=by
 cases e <;> first | rfl | cases h
theorem aug_idx {i:Expr} (h:isIdx i=true) (ov iv new:Value):augStore i ov iv new=(do holding [new,ov,iv] (setItem ov iv new); release [new,ov,iv] []; pure .next):=by
 cases i <;> first | rfl | cases h
theorem comp_sole {e t:Expr} {k:Nat} {env:Env} (h:noComp e=true):swapsWithSole [t] e k env=pure false:=by
 cases e <;> first | rfl | cases h
theorem tup_stores {e:Expr} {es:List Expr} {k:Nat} {p:Pos} {env:Env} (h:isTup e=false):swappedStores [.Tuple es k p] e env=pure none:=by
 cases e <;> first | rfl | cases h
section
variable {B:Bs} {nm:NM} {n:Nat} (C:Cx B nm n) (l:Fr)
noncomputable def BdG (led:Led) (x:Str) (v:VS) (K:Fr→Led→Hs→Prop):Prop:=∀ (Q:Unit→Shared→Prop) (s:Shared) u,v.ok (some u)→C.St l led s→(∀ l' led' hs' s',K l' led' hs'→C.St l' led' s'→Q () s')→wpAny (model B.prog B.w) C.A (storeName C.env x u) Q C.E s
noncomputable def bindNS (x:Str) (v:VS) (led:Led) (hs:Hs) (K:Fr→Led→Hs→Prop):Cd (BdG C l led x v K):=
 Cd.bif (isLoc nm x) (fun e=>⟨putK x v l fun l'=>K l' led hs,fun h Q s u hu H k=>let ⟨l',hp,q⟩:=putK_ok h; stN H .head rfl hp hu (fun s' H'=>k _ _ _ _ q H') C.hk (Cx.kind (isLoc_of e).1)⟩) fun _=>
 Cd.bif (isCell nm x) (fun e=>(match hs with
  | .i j::hs=>Cd.getL led j fun a o e1=>(match o,e1 with
   | .cell _,e1=>⟨C.env.cells.lookup x=some a∧setL (.cell v) led j fun led'=>K l led' hs,fun h Q s u hu H k=>let ⟨led',U,q3⟩:=setL_ok e1 h.2; stC H (.tail U) h.1 hu (fun s' H'=>k _ _ _ _ q3 H') C.hk (Cx.kind (isCell_of e).1)⟩
   | _,_=>.no)
  | _=>.no)) fun _=>.no
noncomputable def bindN (x:Str) (v:VS) (led:Led) (hs:Hs) (K:Fr→Led→Hs→Prop):Prop:=(bindNS C l x v led hs K).1
noncomputable def kNx (K:KS):Fr→Led→Hs→Prop:=fun l led hs=>K .next l led hs
noncomputable def AnG (led:Led) (x:Str) (v:VS) (K:KS):Prop:=∀ (Q:Flow→Shared→Prop) (s:Shared) u,v.ok (some u)→C.St l led s→SK C K Q→wpAny (model B.prog B.w) C.A (storeName C.env x u) (fun _=>Q .next) C.E s
theorem anB {led:Led} {x:Str} {v:VS} {hs:Hs} {K:KS} (h:bindN C l x v led hs (kNx K)):AnG C l led x v K:=fun _ s u hu H k=>(bindNS C l x v led hs (kNx K)).2 h _ s u hu H fun _ _ _ _ q H'=>k _ _ _ _ _ _ q rfl H'
noncomputable def kANS (x:Str) (K:KS) (v:VS) (led:Led) (hs:Hs):Cd (AnG C l led x v K):=match hs with
 | .v k'::hs=>(match v with
  | .int k=>⟨k=k'∧bindN C l x (.int k') led hs (kNx K),fun h=>by rw [h.1]; exact anB C l h.2⟩
  | _=>.no)
 | hs=>Cd.bif (nany v) (fun _=>⟨bindN C l x v led hs (kNx K),anB C l⟩) fun _=>.no
noncomputable def kAN (x:Str) (K:KS):KE:=fun v led hs=>(kANS C l x K v led hs).1
noncomputable def kN2 (y:Str) (v:VS) (K:KS):Fr→Led→Hs→Prop:=fun l led hs=>bindN C l y v led hs (kNx K)
noncomputable def TuG (led:Led) (x y:Str) (v:VS) (K:KS):Prop:=∀ (p1 p2 tp:Pos) (kk:Nat) (Q:Flow→Shared→Prop) (s:Shared) u,v.ok (some u)→C.St l led s→SK C K Q→wpAny (model B.prog B.w) C.A (assign (.Tuple [.Name x p1,.Name y p2] kk tp) C.env u) (fun _=>Q .next) C.E s
theorem at2 {led:Led} {hs:Hs} {K:KS} {x y:Str} {d:Addr} {v1 v2:VS} (g:(nany v1&&nany v2)=true) (hm:(d,OS.tup [v1,v2])∈led) (q:bindN C l x v1 led hs (kN2 C y v2 K)):TuG C l led x y (.ref d) K:=fun p1 p2 tp kk Q s u hu H k=>by
 cases hu
 rw [Bool.and_eq_true] at g
 refine as_tup2 H C.R.handled (.tail _ hm) rfl fun s1 H1=>all_ok g.1 fun u1 hu1=>all_ok g.2 fun u2 hu2=>as_name ?_
 exact (bindNS C l x v1 led hs _).2 q _ _ _ hu1 H1 fun l2 led2 hs2 s2 q2 H2=>as_name ((bindNS C l2 y v2 led2 hs2 _).2 q2 _ _ _ hu2 H2 fun l3 led3 hs3 s3 q3 H3=>k _ _ _ _ _ _ q3 rfl H3)
noncomputable def kATS (x y:Str) (K:KS) (v:VS) (led:Led) (hs:Hs):Cd (TuG C l led x y v K):=match v,hs with
 | .ref d,.t [v1,v2]::hs=>Cd.bif (nany v1&&nany v2) (fun g=>⟨(d,OS.tup [v1,v2])∈led∧bindN C l x v1 led hs (kN2 C y v2 K),fun h=>at2 C l g h.1 h.2⟩) fun _=>.no
 | .ref d,.i j::hs=>Cd.getL led j fun a o e1=>(match o,e1 with
  | .tup [v1,v2],e1=>Cd.bif (nany v1&&nany v2) (fun g=>⟨a=d∧bindN C l x v1 led hs (kN2 C y v2 K),fun h=>at2 C l g (h.1 ▸ at_mem e1) h.2⟩) fun _=>.no
  | _,_=>.no)
 | _,_=>.no
noncomputable def kAT (x y:Str) (K:KS):KE:=fun v led hs=>(kATS C l x y K v led hs).1
noncomputable def setIS (o i v:VS) (led:Led) (hs:Hs) (K:Led→Hs→Prop):Cd (SiP C l led o i v K):=match o,i,v,hs with
 | .ref d,.int k,.int x,.u j ns::hs=>⟨(0≤k∧k<ns.length∧ns.length<1000000)∧getL led j fun a o=>(a,o)=(d,ilst ns)∧setL (ilst (ns.set k.toNat x)) led j fun led'=>K led' hs,fun h=>⟨fun Q s u w x hu hw hx H q=>by
   cases hu
   obtain ⟨t,e⟩:=hw
   obtain ⟨t',e'⟩:=hx
   cases e; cases e'
   obtain ⟨a,o,e1,e2,q2⟩:=getL_ok h.2
   rw [e2] at e1
   obtain ⟨led',U,q3⟩:=setL_ok e1 q2
   exact l_set_ints H (.tail U) h.1.1 h.1.2.1 (Nat.lt_trans h.1.2.2 (by decide)) fun s' H'=>q _ _ _ q3 H'⟩⟩
 | _,_,_,_=>⟨_,fun h=>h⟩
noncomputable def setI (o i v:VS) (led:Led) (hs:Hs) (K:Led→Hs→Prop):Prop:=(setIS C l o i v led hs K).1
noncomputable def kNl (l:Fr) (K:KS):Led→Hs→Prop:=fun led hs=>K .next l led hs
noncomputable def kAS3 (v o:VS) (K:KS):KE:=fun i led hs=>setI C l o i v led hs (kNl l K)
noncomputable def SaG (led:Led) (ov:VS) (a:Str) (v:VS) (K:Led→Hs→Prop):Prop:=∀ (Q:Unit→Shared→Prop) (s:Shared) u w,ov.ok (some u)→v.ok (some w)→C.St l led s→(∀ led' hs' s',K led' hs'→C.St l led' s'→Q () s')→wpAny (model B.prog B.w) C.A (setAttr u a w) Q C.E s
noncomputable def setAS (ov:VS) (a:Str) (v:VS) (led:Led) (hs:Hs) (K:Led→Hs→Prop):Cd (SaG C l led ov a v K):=match ov,hs with
 | .ref d,.i j::.i j2::hs=>Cd.getL led j fun x o e1=>(match o,e1 with
  | .inst c dx,e1=>Cd.getL led j2 fun x2 o2 e2=>(match o2,e2 with
   | .attrs la,e2=>Cd.bif (nany v&&afind c a atab&&decide (la.length≤900)) (fun g=>Cd.opt (lkp a la)
     (fun u0 eu=>Cd.bif u0.real (fun hr=>⟨(x=d∧x2=dx)∧putK a v la fun la'=>setL (.attrs la') led j2 fun led'=>K led' hs,fun h Q s u w hu hw H k=>by
       obtain ⟨⟨g1,g2⟩,q4⟩:=h
       subst g1 g2
       cases hu
       rw [Bool.and_eq_true,Bool.and_eq_true,decide_eq_true_eq] at g
       obtain ⟨⟨c1,c2⟩,a1,a2,a3,a4⟩:=attr_ok (B:=B) g.1.2
       obtain ⟨la',P,q5⟩:=putK_ok q4
       obtain ⟨led',U,q6⟩:=setL_ok e2 q5
       exact a_set H C.hB.X (.tail _ (at_mem e1)) (.tail U) P (lkp_mem eu) hr hw g.2 c1 c2 a4 a2 fun s' H'=>k _ _ _ q6 H'⟩) fun _=>.no)
     fun eu=>⟨(x=d∧x2=dx)∧setL (.attrs (la++[(a,v)])) led j2 fun led'=>K led' hs,fun h Q s u w hu hw H k=>by
       obtain ⟨⟨g1,g2⟩,q4⟩:=h
       subst g1 g2
       cases hu
       rw [Bool.and_eq_true,Bool.and_eq_true,decide_eq_true_eq] at g
       obtain ⟨⟨c1,c2⟩,a1,a2,a3,a4⟩:=attr_ok (B:=B) g.1.2
       obtain ⟨led',U,q6⟩:=setL_ok e2 q4
       exact a_new H C.hB.X (.tail _ (at_mem e1)) (.tail U) (lkp_none eu) hw g.2 c1 c2 a4 a2 fun s' H'=>k _ _ _ q6 H'⟩) fun _=>.no
   | _,_=>.no)
  | _,_=>.no)
 | _,_=>.no
noncomputable def setA (ov:VS) (a:Str) (v:VS) (led:Led) (hs:Hs) (K:Led→Hs→Prop):Prop:=(setAS C l ov a v led hs K).1
noncomputable def kAA2 (v:VS) (a:Str) (K:KS):KE:=fun o led hs=>setA C l o a v led hs (kNl l K)
noncomputable def ipI (op:Operator) (x y:Int) (K:VS→Prop):Prop:=match op with
 | .Add=>K (.int (x+y))
 | _=>False
theorem ipI_ok {C:Cx B nm n} {l:Fr} {led:Led} {s:Shared} {op:Operator} {x y:Int} {t t':Tok} {P:VS→Prop} {Q:Value→Shared→Prop} (H:C.St l led s) (h:ipI op x y P) (k:∀ v u s',P v→v.ok (some u)→C.St l led s'→Q u s'):wpAny (model B.prog B.w) C.A (inplaceOp op (.int x t) (.int y t')) Q C.E s:=by
 cases op
 case Add=>exact i_iadd H fun t s' H'=>k _ _ _ h ⟨t,rfl⟩ H'
 all_goals exact h.elim
noncomputable def kUN (x:Str) (op:Operator) (old:VS) (K:KS):KE:=fun v led hs=>match old,v with
 | .int k,.int j=>ipI op k j fun w=>kAN C l x K w led hs
 | _,_=>False
noncomputable def UaG (led:Led) (a:Str) (op:Operator) (ov old v:VS) (K:KS):Prop:=∀ (Q:Flow→Shared→Prop) (s:Shared) u u2 w,ov.ok (some u)→old.ok (some u2)→v.ok (some w)→C.St l led s→SK C K Q→wpAny (model B.prog B.w) C.A (inplaceOp op u2 w) (fun new s₄=>wpAny (model B.prog B.w) C.A (setAttr u a new) (fun _=>Q .next) C.E s₄) C.E s
noncomputable def kUA2S (a:Str) (op:Operator) (ov old:VS) (K:KS) (v:VS) (led:Led) (hs:Hs):Cd (UaG C l led a op ov old v K):=match old,v with
 | .int k,.int j=>⟨ipI op k j fun w=>setA C l ov a w led hs (kNl l K),fun h Q s u=>fun u2 w hu hu2 hw H kk=>v_ii (P:=fun u2 w=>wpAny (model B.prog B.w) C.A (inplaceOp op u2 w) (fun new s₄=>wpAny (model B.prog B.w) C.A (setAttr u a new) (fun _=>Q .next) C.E s₄) C.E s) (fun t t'=>ipI_ok H h fun v u' s' q4 hu4 H4=>(setAS C l ov a v led hs (kNl l K)).2 q4 _ _ _ _ hu hu4 H4 fun led' hs' s' q5 H5=>kk _ _ _ _ _ _ q5 rfl H5) _ _ hu2 hw⟩
 | _,_=>.no
noncomputable def kUA2 (a:Str) (op:Operator) (ov old:VS) (K:KS):KE:=fun v led hs=>(kUA2S C l a op ov old K v led hs).1
noncomputable def GiG (led:Led) (o i:VS) (K:KE):Prop:=∀ (Q:Value→Shared→Prop) (s:Shared) u w,o.ok (some u)→i.ok (some w)→C.St l led s→EK C l K Q→wpAny (model B.prog B.w) C.A (getItem u w) Q C.E s
noncomputable def getIS (o i:VS) (led:Led) (hs:Hs) (K:KE):Cd (GiG C l led o i K):=match o,i with
 | .ref d,.int k=>(match hs with
  | .l ns::hs=>⟨((d,ilst ns)∈led∧0≤k∧k<ns.length∧ns.length<1000000)∧K (.int (ns.getD k.toNat 0)) led hs,fun h Q s=>v_ri fun t H q=>l_get_ints H (.tail _ h.1.1) h.1.2.1 h.1.2.2.1 (Nat.lt_trans h.1.2.2.2 (by decide)) fun t=>q _ _ _ _ _ h.2 ⟨t,rfl⟩ H⟩
  | _=>.no)
 | _,_=>.no
noncomputable def UsG (led:Led) (op:Operator) (o i old v:VS) (K:KS):Prop:=∀ (Q:Flow→Shared→Prop) (s:Shared) u u2 w x,o.ok (some u)→i.ok (some u2)→old.ok (some w)→v.ok (some x)→C.St l led s→SK C K Q→wpAny (model B.prog B.w) C.A (inplaceOp op w x) (fun new s₅=>wpAny (model B.prog B.w) C.A (setItem u u2 new) (fun _=>Q .next) C.E s₅) C.E s
noncomputable def kUS3S (op:Operator) (o i old:VS) (K:KS) (v:VS) (led:Led) (hs:Hs):Cd (UsG C l led op o i old v K):=match old,v with
 | .int k,.int j=>⟨ipI op k j fun w=>setI C l o i w led hs (kNl l K),fun h Q s u u2 w x hu hu2 hw hx H kk=>v_ii (P:=fun w x=>wpAny (model B.prog B.w) C.A (inplaceOp op w x) (fun new s₅=>wpAny (model B.prog B.w) C.A (setItem u u2 new) (fun _=>Q .next) C.E s₅) C.E s) (fun t t'=>ipI_ok H h fun v u' s' q4 hu4 H4=>((setIS C l o i v led hs (kNl l K)).2 q4).ok _ _ _ _ _ hu hu2 hu4 H4 fun led' hs' s' q5 H5=>kk _ _ _ _ _ _ q5 rfl H5) _ _ hw hx⟩
 | _,_=>.no
noncomputable def kUS3 (op:Operator) (o i old:VS) (K:KS):KE:=fun v led hs=>(kUS3S C l op o i old K v led hs).1
noncomputable def kEx (l:Fr) (K:KS):KE:=fun v led hs=>match v with | .ref _=>False | .any=>False | .is _=>False | .str _=>False | _=>K .next l led hs
variable (r:Tk→Prop)
noncomputable def kAS2 (v:VS) (i:Expr) (K:KS):KE:=fun o led hs=>r (.E l led hs i (kAS3 C l v o K))
noncomputable def kAS1 (o i:Expr) (K:KS):KE:=fun v led hs=>r (.E l led hs o (kAS2 C l r v i K))
noncomputable def kAA1 (o:Expr) (a:Str) (K:KS):KE:=fun v led hs=>r (.E l led hs o (kAA2 C l v a K))
noncomputable def kUA1 (a:Str) (op:Operator) (ov:VS) (e:Expr) (K:KS):KE:=fun old led hs=>r (.E l led hs e (kUA2 C l a op ov old K))
noncomputable def kUA0 (a:Str) (op:Operator) (e:Expr) (K:KS):KE:=fun ov led hs=>kAt C l a (kUA1 C l r a op ov e K) ov led hs
noncomputable def kUS2 (op:Operator) (o i:VS) (e:Expr) (K:KS):KE:=fun old led hs=>r (.E l led hs e (kUS3 C l op o i old K))
noncomputable def kUS1 (op:Operator) (o:VS) (e:Expr) (K:KS):KE:=fun i led hs=>(getIS C l o i led hs (kUS2 C l r op o i e K)).1
noncomputable def kUS0 (op:Operator) (i e:Expr) (K:KS):KE:=fun o led hs=>r (.E l led hs i (kUS1 C l r op o e K))
noncomputable def kIfS (l:Fr) (bd oe:List Stmt) (K:KS):Bool→Led→Hs→Prop:=fun b led hs=>match b with
 | true=>r (.W l led (brT hs) bd K)
 | false=>r (.W l led (brF hs) oe K)
noncomputable def kSq (ss:List Stmt) (K:KS):KS:=fun f l led hs=>match f with
 | .next=>r (.W l led hs ss K)
 | .brk=>K .brk l led hs
 | .cont=>K .cont l led hs
 | .ret v=>K (.ret v) l led hs
end
section
variable {B:Bs} {nm:NM} {n:Nat} {C:Cx B nm n} {r:Tk→Prop} {l:Fr} {led:Led} {hs:Hs} {s:Shared} {K:KS}
theorem kAN_ok {x:Str} {v:VS} {u:Value} {Q:Flow→Shared→Prop} (h:kAN C l x K v led hs) (hu:v.ok (some u)) (H:C.St l led s) (k:SK C K Q):wpAny (model B.prog B.w) C.A (storeName C.env x u) (fun _=>Q .next) C.E s:=(kANS C l x K v led hs).2 h Q s u hu H k
variable (IH:IHr C r)
include IH
theorem kBT_ok {op:BoolOp} {es:List Expr} {pos:Pos} {b:Bool} {K:Bool→Led→Hs→Prop} {Q:Bool→Shared→Prop} (h:kBT r l op es pos K b led hs) (H:C.St l led s) (k:TK C l K Q):
  match op,b with
  | .And,true=>wpAny (model B.prog B.w) C.A (isTrue (.BoolOp .And es pos) C.env (eval (.BoolOp .And es pos) C.env)) Q C.E s
  | .And,false=>Q false s
  | .Or,true=>Q true s
  | .Or,false=>wpAny (model B.prog B.w) C.A (isTrue (.BoolOp .Or es pos) C.env (eval (.BoolOp .Or es pos) C.env)) Q C.E s:=by
 cases op <;> cases b
 ·exact k _ _ _ _ h H
 ·exact IH _ h _ s H k
 ·exact IH _ h _ s H k
 ·exact k _ _ _ _ h H
omit IH
variable (C) (r)
noncomputable abbrev TkC (l:Fr) (led:Led) (hs:Hs) (e:Expr) (K:Bool→Led→Hs→Prop):Type:=Cd (IHr C r→(Tk.T l led hs e K).ok C)
noncomputable def boTS (l:Fr) (led:Led) (hs:Hs) (op:BoolOp) (es:List Expr) (pos:Pos) (K:Bool→Led→Hs→Prop):TkC C r l led hs (.BoolOp op es pos) K:=match es,op with
 | [],.And=>⟨K true led hs,fun h _ Q s H k=>isTrue_and_nil (k _ _ _ _ h H)⟩
 | [],.Or=>⟨K false led hs,fun h _ Q s H k=>isTrue_or_nil (k _ _ _ _ h H)⟩
 | [x],.And=>⟨r (.T l led hs x K),fun h IH Q s H k=>isTrue_and (IH _ h _ s H fun b led1 hs1 s1 q H1=>by
   cases b with
   | true=>exact isTrue_and_nil (k _ _ _ _ q H1)
   | false=>exact k _ _ _ _ q H1)⟩
 | [x],.Or=>⟨r (.T l led hs x K),fun h IH Q s H k=>isTrue_or (IH _ h _ s H fun b led1 hs1 s1 q H1=>by
   cases b with
   | true=>exact k _ _ _ _ q H1
   | false=>exact isTrue_or_nil (k _ _ _ _ q H1))⟩
 | x::rest,.And=>⟨r (.T l led hs x (kBT r l .And rest pos K)),fun h IH Q s H k=>isTrue_and (IH _ h _ s H fun b led1 hs1 s1 q H1=>by
   cases b with
   | true=>exact kBT_ok IH q H1 k
   | false=>exact kBT_ok IH q H1 k)⟩
 | x::rest,.Or=>⟨r (.T l led hs x (kBT r l .Or rest pos K)),fun h IH Q s H k=>isTrue_or (IH _ h _ s H fun b led1 hs1 s1 q H1=>by
   cases b with
   | true=>exact kBT_ok IH q H1 k
   | false=>exact kBT_ok IH q H1 k)⟩
noncomputable def coTS (l:Fr) (led:Led) (hs:Hs) (a:Expr) (ops:List CmpOp) (bs:List Expr) (p:Pos) (K:Bool→Led→Hs→Prop):TkC C r l led hs (.Compare a ops bs p) K:=match ops,bs with
 | [op],[b]=>Cd.bif (behindInMarks op b) (fun _=>.no) fun hb=>⟨r (.E l led hs a (kT1 C r l b op K)),fun h IH Q s H k=>wpAny_isTrue_Compare1 (IH _ h _ s H fun va led1 hs1 s1 u q hu H1=>IH _ q _ s1 H1 fun vb led2 hs2 s2 w q2 hw H2=>((cmpBS C l led2 op hs2 K va vb).2 q2).ok _ _ _ _ hu hw H2 k) hb⟩
 | _,_=>.no
noncomputable def stTS (l:Fr) (led:Led) (hs:Hs) (e:Expr) (K:Bool→Led→Hs→Prop):TkC C r l led hs e K:=match e with
 | .UnaryOp .Not x _=>⟨r (.T l led hs x (kNot K)),fun h IH Q s H k=>isTrue_not (IH _ h _ s H fun b led1 hs1 s1 q H1=>k _ _ _ _ q H1)⟩
 | .BoolOp op es pos=>boTS C r l led hs op es pos K
 | .Compare a ops bs p=>coTS C r l led hs a ops bs p K
 | e=>Cd.bif (plainT e) (fun hp=>⟨r (.E l led hs e (kTr K)),fun h IH Q s H k=>isTrue_plain (IH _ h _ s H fun va led1 hs1 s1 u q hu H1=>truth_ok H1 q hu k) (plain_eq hp)⟩) fun _=>.no
noncomputable abbrev StC (l:Fr) (led:Led) (st:Stmt) (K:KS):Type:=Cd (IHr C r→StP C l led st K)
noncomputable def asgSS (l:Fr) (led:Led) (hs:Hs) (t e:Expr) (p:Pos) (K:KS):StC C r l led (.Assign [t] e p) K:=Cd.bif (noComp e) (fun hc=>(match t with
 | .Name x _=>⟨r (.E l led hs e (kAN C l x K)),fun h IH=>⟨fun Q s H k=>wpAny_Assign_Name (IH _ h _ s H fun v led1 hs1 s1 u q hu H1=>kAN_ok q hu H1 k) (noComp_swaps hc)⟩⟩
 | .Subscript o i _=>⟨r (.E l led hs e (kAS1 C l r o i K)),fun h IH=>⟨fun Q s H k=>wpAny_Assign_Subscript (IH _ h _ s H fun v led1 hs1 s1 u q hu H1=>IH _ q _ s1 H1 fun o led2 hs2 s2 u2 q2 hu2 H2=>IH _ q2 _ s2 H2 fun i led3 hs3 s3 u3 q3 hu3 H3=>((setIS C l o i v led3 hs3 _).2 q3).ok _ _ _ _ _ hu2 hu3 hu H3 fun led' hs' s' q4 H4=>k _ _ _ _ _ _ q4 rfl H4) (noComp_swaps hc)⟩⟩
 | .Attribute o a _=>⟨r (.E l led hs e (kAA1 C l r o a K)),fun h IH=>⟨fun Q s H k=>plainObj_wpAny_Assign_Attribute (IH _ h _ s H fun v led1 hs1 s1 u q hu H1=>IH _ q _ s1 H1 fun o led2 hs2 s2 u2 q2 hu2 H2=>(setAS C l o a v led2 hs2 _).2 q2 _ _ _ _ hu2 hu H2 fun led' hs' s' q4 H4=>k _ _ _ _ _ _ q4 rfl H4) (noComp_swaps hc)⟩⟩
 | .Tuple [.Name x _,.Name y _] _ _=>Cd.bif (isTup e) (fun _=>⟨_,fun h _=>h⟩) fun e1=>⟨r (.E l led hs e (kAT C l x y K)),fun h IH=>⟨fun Q s H k=>Assign_Tuple (IH _ h _ s H fun v led1 hs1 s1 u q hu H1=>(kATS C l x y K v led1 hs1).2 q _ _ _ _ _ _ _ hu H1 k) (comp_sole hc) (tup_stores e1)⟩⟩
 | _=>⟨_,fun h _=>h⟩)) fun _=>⟨_,fun h _=>h⟩
noncomputable def augSS (l:Fr) (led:Led) (hs:Hs) (t:Expr) (op:Operator) (e:Expr) (p:Pos) (K:KS):StC C r l led (.AugAssign t op e p) K:=match t with
 | .Name x _=>Cd.bif (isLoc nm x) (fun e1=>Cd.opt (lkp x l) (fun old ev=>(match old,ev with
   | .int k0,ev=>⟨r (.E l led hs e (kUN C l x op (.int k0) K)),fun h IH=>⟨fun Q s H k=>wpAny_AugAssign_Name (ldN H (.head _) rfl (lkp_mem ev) (fun t=>IH _ h _ s H fun v led1 hs1 s1 u q hu H1=>by
     cases v with
     | int j=>
      obtain ⟨t',e3⟩:=hu
      cases e3
      have q:ipI op k0 j (fun w=>kAN C l x K w led1 hs1):=q
      exact ipI_ok H1 q fun v u s' q2 hu H2=>kAN_ok q2 hu H2 k
     | _=>exact q.elim) C.hk (Cx.kind (isLoc_of e1).1))⟩⟩
   | _,_=>⟨_,fun h _=>h⟩)) fun _=>.no) fun _=>⟨_,fun h _=>h⟩
 | .Attribute o a _=>⟨r (.E l led hs o (kUA0 C l r a op e K)),fun h IH=>⟨fun Q s H k=>wpAny_AugAssign_AttributeAny (IH _ h _ s H fun ov led1 hs1 s1 u q hu H1=>(kAtS C l led1 hs1 (kUA1 C l r a op ov e K) a ov).2 q _ _ _ hu H1 fun old led2 hs2 s2 u2 q2 hu2 H2=>IH _ q2 _ s2 H2 fun v led3 hs3 s3 u3 q3 hu3 H3=>(kUA2S C l a op ov old K v led3 hs3).2 q3 _ _ _ _ _ hu hu2 hu3 H3 k)⟩⟩
 | .Subscript o i _=>Cd.bif (isIdx i) (fun e1=>⟨r (.E l led hs o (kUS0 C l r op i e K)),fun h IH=>⟨fun Q s H k=>wpAny_AugAssign_SubscriptAny (IH _ h _ s H fun ov led1 hs1 s1 u q hu H1=>IH _ q _ s1 H1 fun iv led2 hs2 s2 u2 q2 hu2 H2=>(getIS C l ov iv led2 hs2 (kUS2 C l r op ov iv e K)).2 q2 _ _ _ _ hu hu2 H2 fun old led3 hs3 s3 u3 q3 hu3 H3=>IH _ q3 _ s3 H3 fun v led4 hs4 s4 u4 q4 hu4 H4=>(kUS3S C l op ov iv old K v led4 hs4).2 q4 _ _ _ _ _ _ hu hu2 hu3 hu4 H4 k) (aug_idx e1)⟩⟩) fun _=>⟨_,fun h _=>h⟩
 | _=>⟨_,fun h _=>h⟩
noncomputable def exSS (l:Fr) (led:Led) (hs:Hs) (e:Expr) (p:Pos) (K:KS):StC C r l led (.Expr e p) K:=Cd.bif (noComp e) (fun e1=>⟨r (.E l led hs e (kEx l K)),fun h IH=>⟨fun Q s H k=>wpAny_Expr (IH _ h _ s H fun v led1 hs1 s1 u q hu H1=>by
  cases v with
  | int i=>obtain ⟨t,e⟩:=hu; cases e; exact k _ _ _ _ _ _ q rfl H1
  | bool b=>cases hu; exact k _ _ _ _ _ _ q rfl H1
  | none=>cases hu; exact k _ _ _ _ _ _ q rfl H1
  | _=>exact q.elim) (by unfold interactive; rw [C.hk]; rfl) (noComp_swaps e1)⟩⟩) fun _=>⟨_,fun h _=>h⟩
noncomputable def ifSS (l:Fr) (led:Led) (hs:Hs) (t:Expr) (bd oe:List Stmt) (p:Pos) (K:KS):StC C r l led (.If t bd oe p) K:=match hs with
 | .j::_=>⟨_,fun h _=>h⟩
 | hs=>⟨r (.T l led hs t (kIfS r l bd oe K)),fun h IH=>⟨fun Q s H k=>wpAny_If (IH _ h _ s H fun b led1 hs1 s1 q H1=>by
   cases b with
   | true=>exact IH _ q _ s1 H1 k
   | false=>exact IH _ q _ s1 H1 k)⟩⟩
noncomputable def stSS (l:Fr) (led:Led) (hs:Hs) (st:Stmt) (K:KS):StC C r l led st K:=match st with
 | .Assign ts e p=>(match ts with | [t]=>asgSS C r l led hs t e p K | _=>.no)
 | .AugAssign t op e p=>augSS C r l led hs t op e p K
 | .Expr e p=>exSS C r l led hs e p K
 | .Return e _=>(match e with
  | some e=>⟨r (.E l led hs e (kRet1 l K)),fun h IH=>⟨fun Q s H k=>wpAny_Return_some (IH _ h _ s H fun v led1 hs1 s1 u q hu H1=>k _ _ _ _ _ _ q ⟨u,rfl,hu⟩ H1)⟩⟩
  | none=>⟨K (.ret .none) l led hs,fun h _=>⟨fun Q s H k=>wpAny_Return_none (k _ _ _ _ _ _ h ⟨_,rfl,rfl⟩ H)⟩⟩)
 | .If t bd oe p=>ifSS C r l led hs t bd oe p K
 | .Pass _=>⟨K .next l led hs,fun h _=>⟨fun Q s H k=>wpAny_Pass (k _ _ _ _ _ _ h rfl H)⟩⟩
 | .Break _=>⟨K .brk l led hs,fun h _=>⟨fun Q s H k=>wpAny_Break (k _ _ _ _ _ _ h rfl H)⟩⟩
 | .Continue _=>⟨K .cont l led hs,fun h _=>⟨fun Q s H k=>wpAny_Continue (k _ _ _ _ _ _ h rfl H)⟩⟩
 | _=>⟨_,fun h _=>h⟩
noncomputable def stW (l:Fr) (led:Led) (hs:Hs) (ss:List Stmt) (K:KS):Prop:=match ss with
 | []=>K .next l led hs
 | st::ss=>(stSS C r l led hs st (kSq r ss K)).1
noncomputable def step (t:Tk):Prop:=match t with
 | .E l led hs e K=>stE C r l led hs e K
 | .A l led hs es K=>stA r l led hs es K
 | .T l led hs e K=>(stTS C r l led hs e K).1
 | .W l led hs ss K=>stW C r l led hs ss K
noncomputable def mrun (f:Nat):Tk→Prop:=Nat.rec (fun _=>False) (fun _=>step C) f
variable {C} {r} (IH:IHr C r)
include IH
theorem kSq_ok {ss:List Stmt} {K:KS} {f:FS} {fl:Flow} {Q:Flow→Shared→Prop} (h:kSq r ss K f l led hs) (hf:f.ok fl) (H:C.St l led s) (k:SK C K Q):match (generalizing:=false) fl with | .next=>wpAny (model B.prog B.w) C.A (execs ss C.env) Q C.E s | f=>Q f s:=by
 cases f with
 | next=>cases hf; exact IH _ h _ s H k
 | brk=>cases hf; exact k _ _ _ _ _ _ h rfl H
 | cont=>cases hf; exact k _ _ _ _ _ _ h rfl H
 | ret v=>
  have hf0:=hf
  obtain ⟨u,e,hu⟩:=hf
  subst e
  exact k _ _ _ _ _ _ h hf0 H
theorem stW_ok {ss:List Stmt} {K:KS} (h:stW C r l led hs ss K):(Tk.W l led hs ss K).ok C:=fun Q s H k=>by
 cases ss with
 | nil=>exact wpAny_execs_nil (k _ _ _ _ _ _ h rfl H)
 | cons st ss=>exact wpAny_execs_cons (((stSS C r l led hs st (kSq r ss K)).2 h IH).ok _ s H fun f l' led' hs' s' fl q hf H'=>kSq_ok IH q hf H' k)
end
theorem mrun_ok {B:Bs} {nm:NM} {n:Nat} (C:Cx B nm n):∀ (f:Nat) (t:Tk),mrun C f t→t.ok C
 | 0,_,h=>h.elim
 | f+1,t,h=>by
  have IH:=mrun_ok C f
  cases t with
  | E l led hs e K=>exact stE_ok IH h
  | A l led hs es K=>exact stA_ok IH h
  | T l led hs e K=>exact (stTS C _ l led hs e K).2 h IH
  | W l led hs ss K=>exact stW_ok IH h
end
end Mine
namespace Mine
open PySem PySem.W PyProof.Rows PySem.Spec PySem.Calls
section
variable {B:Bs} {nm:NM} {n:Nat} (C:Cx B nm n)
noncomputable def kLp (N:Fr→Led→Prop) (K:KS):KS:=fun f l led hs=>match f with
 | .next=>N l led
 | .cont=>N l led
 | .brk=>K .next l led hs
 | .ret v=>K (.ret v) l led hs
noncomputable def kWh (l:Fr) (bd:List Stmt) (N:Fr→Led→Prop) (K:KS):Bool→Led→Hs→Prop:=fun b led hs=>match b with
 | true=>mrun C 1000 (.W l led (brT hs) bd (kLp N K))
 | false=>K .next l led (brF hs)
structure FoP (l:Fr) (led:Led) (v:VS) (t:Expr) (bd:List Stmt) (K:KS):Prop where
 ok:∀ (Q:Flow→Shared→Prop) (s:Shared) u,v.ok (some u)→C.St l led s→(∀ f l' led' hs' s' fl,K f l' led' hs'→f.ok fl→C.St l' led' s'→Q fl s')→
  wpAny (model B.prog B.w) C.A (pyIter u) (fun it s₂=>codeAny (model B.prog B.w) C.A (.forLoop t it bd [] C.env) (fun r s'=>match r with | .ok f=>Q f s' | .error e=>cameBackBy (model B.prog B.w) C.A C.env C.E e s') s₂) C.E s
noncomputable def kFo (l:Fr) (t:Expr) (bd:List Stmt) (K:KS):KE:=fun v led hs=>FoP C l led v t bd K
noncomputable def rngO (a b c:Int):OS:=.pred fun o=>∃ t u v,o={ cls:=.type "range",dict:=none,data:=.fields #[.int a t,.int b u,.int c v],slots:=#[] }
noncomputable def IterP (l:Fr) (led led':Led) (v:VS) (I:Itr B):Prop:=∀ (Q E:Value→Shared→Prop) (s:Shared) u,v.ok (some u)→C.St l led s→(∀ ia s',St B ((ia,I.at_ 0)::(C.env.locals,.ns l)::led') s'→Q (.ref ia) s')→wpAny (model B.prog B.w) C.A (pyIter u) Q E s
noncomputable def kBd (bd:List Stmt) (N:Fr→Led→Prop) (K:KS):KS:=fun f l led hs=>match f with
 | .next=>mrun C 1000 (.W l led hs bd (kLp N K))
 | _=>False
noncomputable def TgG (l:Fr) (t:Expr) (v:VS) (led:Led) (K:KS):Prop:=∀ (Q:Flow→Shared→Prop) (s:Shared) u,v.ok (some u)→C.St l led s→SK C K Q→wpAny (model B.prog B.w) C.A (assign t C.env u) (fun _=>Q .next) C.E s
noncomputable def tgtS (l:Fr) (t:Expr) (v:VS) (led:Led) (hs:Hs) (K:KS):Cd (TgG C l t v led K):=match t with
 | .Name x _=>⟨kAN C l x K v led hs,fun h Q s u hu H k=>as_name (kAN_ok h hu H k)⟩
 | .Tuple [.Name x _,.Name y _] _ _=>⟨kAT C l x y K v led hs,fun h Q s u hu H k=>(kATS C l x y K v led hs).2 h _ _ _ _ _ _ _ hu H k⟩
 | _=>.no
noncomputable def tgt (l:Fr) (t:Expr) (v:VS) (led:Led) (hs:Hs) (K:KS):Prop:=(tgtS C l t v led hs K).1
end
section
variable {B:Bs} {nm:NM} {n:Nat} {C:Cx B nm n} {l:Fr} {led:Led} {hs:Hs} {s:Shared} {K:KS}
theorem subF {a b:Led} {p:Addr×OS} (h:Sub a b):Sub (p::a) (p::b):=.pick .head h
noncomputable def thinL:List Nat→Nat→Led→Led
 | [],k,led=>led.drop k
 | i::is,k,led=>match led[i]? with
  | some p=>p::thinL is k (led.eraseIdx i)
  | none=>[]
theorem perm_at {led:Led} {i:Nat} {p:Addr×OS} (h:led[i]?=some p):led.Perm (p::led.eraseIdx i):=by
 induction led generalizing i with
 | nil=>cases h
 | cons a r ih=>
  cases i with
  | zero=>cases h; exact .refl _
  | succ i=>exact (List.Perm.cons a (ih (i:=i) h)).trans (.swap ..)
theorem Sub.ix:∀ (is:List Nat) (k:Nat) (led:Led),Sub (thinL is k led) led
 | [],k,led=>⟨led.take k,by
  show led.Perm (led.drop k++led.take k)
  exact (List.Perm.of_eq (List.take_append_drop k led).symm).trans List.perm_append_comm⟩
 | i::is,k,led=>by
  unfold thinL
  split
  ·rename_i p e
   obtain ⟨d,q⟩:=Sub.ix is k (led.eraseIdx i)
   exact ⟨d,(perm_at e).trans (List.Perm.cons p q)⟩
  ·exact Sub.nil led
theorem Sub.mid (a b c:Led):Sub (b++(a++c)) (a++(b++c)):=Sub.of_perm (by rw [← List.append_assoc,← List.append_assoc]; exact List.Perm.append_right c List.perm_append_comm)
theorem loopK {N:Fr→Led→Prop} {P:Shared→Prop} {Q:Flow→Shared→Prop} (hN:∀ l' led' s',N l' led'→C.St l' led' s'→P s') (k:SK C K Q):SK C (kLp N K) (fun f s=>match f with | .next=>P s | .cont=>P s | .brk=>Q .next s | .ret v=>Q (.ret v) s):=fun f l' led' hs' s' fl q hf H=>by
 cases f with
 | next=>cases hf; exact hN _ _ _ q H
 | cont=>cases hf; exact hN _ _ _ q H
 | brk=>cases hf; exact k _ _ _ _ _ _ q rfl H
 | ret v=>
  have hf0:=hf
  obtain ⟨u,e,hu⟩:=hf
  subst e
  exact k _ _ _ _ _ _ q hf0 H
theorem StP.while_ {ι:Type} {t:Expr} {bd:List Stmt} {p:Pos} (I:Nat→ι→Prop) (fr:ι→Fr) (ld:ι→Led) (k0:Nat) (c0:ι) (hs:ι→Hs) (h0:I k0 c0)
  (turn:∀ k c,I k c→∀ N:Fr→Led→Prop,(∀ m c' led2,m<k→I m c'→Sub (ld c') led2→N (fr c') led2)→mrun C 1000 (.T (fr c) (ld c) (hs c) t (kWh C (fr c) bd N K))):StP C (fr c0) (ld c0) (.While t bd [] p) K:=⟨fun Q s H k=>
 Mine.while_ C.hE (fun k s=>∃ c,I k c∧C.St (fr c) (ld c) s) k0 ⟨c0,h0,H⟩ fun kk s' ⟨c,hI,H'⟩=>by
  refine mrun_ok C _ _ (turn kk c hI (fun l' led'=>∃ m c',m<kk∧I m c'∧l'=fr c'∧Sub (ld c') led') fun m c' led2 h1 h2 h3=>⟨m,c',h1,h2,rfl,h3⟩) _ s' H' fun b led1 hs1 s1 q H1=>?_
  cases b with
  | true=>
   have q:mrun C 1000 (.W _ _ _ _ _):=q
   refine mrun_ok C _ _ q _ s1 H1 (loopK (fun l' led' s2 hN H2=>?_) k)
   obtain ⟨m,c',h1,h2,rfl,h3⟩:=hN
   exact ⟨m,h1,c',h2,H2.sub h3⟩
  | false=>exact k _ _ _ _ _ _ q rfl H1⟩
noncomputable def kJn (N:Fr→Led→Prop) (K:KS):KS:=fun f l led hs=>match f with
 | .next=>N l led
 | .brk=>K .brk l led hs
 | .cont=>K .cont l led hs
 | .ret v=>K (.ret v) l led hs
theorem StP.join {ι:Type} {t:Expr} {bd oe:List Stmt} {p:Pos} (P:ι→Prop) (fr:ι→Fr) (ld:ι→Led) (hs:Hs) (hs2:ι→Hs)
  (h:∀ N:Fr→Led→Prop,(∀ c led2,P c→Sub (ld c) led2→N (fr c) led2)→mrun C 1000 (.T l led hs t (kIfS (mrun C 1000) l bd oe (kJn N K)))) (h2:∀ c,P c→K .next (fr c) (ld c) (hs2 c)):StP C l led (.If t bd oe p) K:=⟨fun Q s H k=>by
 refine wpAny_If (mrun_ok C _ _ (h (fun l' led'=>∃ c,P c∧l'=fr c∧Sub (ld c) led') fun c led2 h1 h3=>⟨c,h1,rfl,h3⟩) _ s H fun b led1 hs1 s1 q H1=>?_)
 have fin:SK C (kJn (fun l' led'=>∃ c,P c∧l'=fr c∧Sub (ld c) led') K) Q:=fun f l' led' hs' s' fl q hf H'=>by
  cases f with
  | next=>
   cases hf
   obtain ⟨c,h1,rfl,h3⟩:=q
   exact k _ _ _ _ _ _ (h2 c h1) rfl (H'.sub h3)
  | brk=>cases hf; exact k _ _ _ _ _ _ q rfl H'
  | cont=>cases hf; exact k _ _ _ _ _ _ q rfl H'
  | ret v=>
   have hf0:=hf
   obtain ⟨u,e,hu⟩:=hf
   subst e
   exact k _ _ _ _ _ _ q hf0 H'
 cases b with
 | true=>exact mrun_ok C _ _ (show mrun C 1000 (.W _ _ _ _ _) from q) _ s1 H1 fin
 | false=>exact mrun_ok C _ _ (show mrun C 1000 (.W _ _ _ _ _) from q) _ s1 H1 fin⟩
theorem StP.for_ {t e:Expr} {bd:List Stmt} {p:Pos} (hs:Hs) (hf:∀ x,foldedSetIterable e C.env x=pure x) (h:mrun C 1000 (.E l led hs e (kFo C l t bd K))):StP C l led (.For t e bd [] p) K:=⟨fun Q s H k=>
 For_ (mrun_ok C _ _ h _ s H fun v led1 hs1 s1 u q hu H1=>q.ok Q s1 u hu H1 k) hf⟩
theorem tgt_ok {t:Expr} {v:VS} {u:Value} {Q:Flow→Shared→Prop} (h:tgt C l t v led hs K) (hu:v.ok (some u)) (H:C.St l led s) (k:SK C K Q):wpAny (model B.prog B.w) C.A (assign t C.env u) (fun _=>Q .next) C.E s:=(tgtS C l t v led hs K).2 h Q s u hu H k
theorem FoP.go {ι:Type} {v:VS} {t:Expr} {bd:List Stmt} (I:Itr B) (J:Nat→ι→Prop) (fr:ι→Fr) (ld:ι→Led) (c0:ι) (itm:Nat→VS) (hs:Nat→ι→Hs) (hs2:ι→Hs) (hn:∀ i,i<I.n→I.item i=itm i∧nany (itm i)=true) (hI:IterP C (fr c0) led (ld c0) v I) (h0:J 0 c0)
  (hsv:∀ i c,J i c→I.serves ((C.env.locals,.ns (fr c))::ld c)) (ht:∀ ia i led s v (Q:Unit→Shared→Prop) E,(I.item i).ok (some v)→St B ((ia,I.at_ (i+1))::led) s→Q () s→wpAny (model B.prog B.w) C.A (letOwnedTupleGo t (.ref ia) v) Q E s)
  (turn:∀ i c,i<I.n→J i c→∀ ia (N:Fr→Led→Prop),(∀ c' led2,J (i+1) c'→Sub ((ia,I.at_ (i+1))::ld c') led2→N (fr c') led2)→tgt C (fr c) t (itm i) ((ia,I.at_ (i+1))::ld c) (hs i c) (kBd C bd N K))
  (done:∀ c,J I.n c→K .next (fr c) (ld c) (hs2 c)):FoP C (fr c0) led v t bd K:=⟨fun Q s u hu H k=>
 hI _ _ s u hu H fun ia s1 H1=>Mine.for_ I C.hE C.R.handled H1 (fun i led'=>∃ c,J i c∧led'=(C.env.locals,.ns (fr c))::ld c) ⟨c0,h0,rfl⟩ (fun i led' ⟨c,hJ,e⟩=>e ▸ hsv i c hJ) (ht ia)
  (fun i led' s' hlt ⟨c,hJ,e⟩ H'=>by
   subst e
   rw [(hn i hlt).1]
   refine all_ok (hn i hlt).2 fun u hu=>tgt_ok (Q:=fun f s₂=>match f with
    | .next=>wpAny (model B.prog B.w) C.A (execs bd C.env) (fun f s₃=>match f with
     | .next=>∃ led',(∃ c,J (i+1) c∧led'=(C.env.locals,.ns (fr c))::ld c)∧St B ((ia,I.at_ (i+1))::led') s₃
     | .cont=>∃ led',(∃ c,J (i+1) c∧led'=(C.env.locals,.ns (fr c))::ld c)∧St B ((ia,I.at_ (i+1))::led') s₃
     | .brk=>Q .next s₃
     | .ret v=>Q (.ret v) s₃) C.E s₂
    | _=>False) (turn i c hlt hJ ia (fun l' led2=>∃ c',J (i+1) c'∧l'=fr c'∧Sub ((ia,I.at_ (i+1))::ld c') led2) fun c' led2 h1 h2=>⟨c',h1,rfl,h2⟩) hu (H'.perm (.swap ..)) fun f l' led2 hs' s2 fl q hf H2=>?_
   cases f with
   | next=>
    cases hf
    have q:mrun C 1000 (.W _ _ _ _ _):=q
    refine mrun_ok C _ _ q _ s2 H2 (loopK (fun l' led' s3 hN H3=>?_) k)
    obtain ⟨c',h1,rfl,h3⟩:=hN
    exact ⟨_,⟨c',h1,rfl⟩,(H3.sub h3).perm (.swap ..)⟩
   | _=>exact q.elim)
  (fun led' s' ⟨c,hJ,e⟩ H'=>by
   subst e
   exact k _ _ _ _ _ _ (done c hJ) rfl H')⟩
theorem CallP.range2 {x y:Int} {K:KE} (hs:Hs) (h:∀ r,K (.ref r) ((r,rngO x y 1)::led) hs):CallP C l led (.type "range") [.int x,.int y] K:=⟨fun Q s us hu H k=>by
 obtain ⟨t,t',rfl⟩:=oksII hu
 exact r_two H fun r s' H'=>k _ _ _ _ _ (h r) rfl (Cx.St.swap H')⟩
theorem CallP.range1 {y:Int} {K:KE} (hs:Hs) (h:∀ r,K (.ref r) ((r,rngO 0 y 1)::led) hs):CallP C l led (.type "range") [.int y] K:=⟨fun Q s us hu H k=>by
 obtain ⟨t,rfl⟩:=oksI hu
 exact r_one H fun r s' H'=>k _ _ _ _ _ (h r) rfl (Cx.St.swap H')⟩
theorem CallP.range3 {x y:Int} {K:KE} (hs:Hs) (hz:(y-x).natAbs<2 ^ 40) (h:∀ r,K (.ref r) ((r,rngO x y (-1))::led) hs):CallP C l led (.type "range") [.int x,.int y,.int (-1)] K:=⟨fun Q s us hu H k=>by
 obtain ⟨t,t',t2,rfl⟩:=oksIII hu
 exact r_three H hz fun r s' H'=>k _ _ _ _ _ (h r) rfl (Cx.St.swap H')⟩
theorem CallP.rev {d:Addr} {vs:List VS} {K:KE} (hs:Hs) (hm:(d,OS.lst vs)∈led) (h:∀ r,K (.ref r) ((r,(itrRev B d vs).at_ 0)::led) hs):CallP C l led (.type "reversed") [.ref d] K:=⟨fun Q s us hu H k=>by
 obtain rfl:=oksR hu
 exact it_rev H (.tail _ hm) fun r s' H'=>k _ _ _ _ _ (h r) rfl (Cx.St.swap H')⟩
theorem CallP.list {d:Addr} {ns:List Int} {K:KE} (hs:Hs) (hm:(d,ilst ns)∈led) (hz:ns.length≤1000000) (h:∀ r,K (.ref r) ((r,ilst ns)::led) hs):CallP C l led (.type "list") [.ref d] K:=⟨fun Q s us hu H k=>by
 obtain rfl:=oksR hu
 exact l_copy_ints H (.tail _ hm) hz fun r s' H'=>k _ _ _ _ _ (h r) rfl (Cx.St.swap H')⟩
theorem CallP.sum {d:Addr} {ns:List Int} {K:KE} (hs:Hs) (hm:(d,ilst ns)∈led) (h:K (.int ns.sum) led hs):CallP C l led (.builtin "sum") [.ref d] K:=⟨fun Q s us hu H k=>by
 obtain rfl:=oksR hu
 exact l_sum H C.R.handled (.tail _ hm) fun t s' H'=>k _ _ _ _ _ h ⟨t,rfl⟩ H'⟩
theorem CallP.maxL {d:Addr} {ns:List Int} {K:KE} (hs:Hs) (hm:(d,ilst ns)∈led) (hne:0<ns.length) (h:∀ M,M∈ns→(∀ a∈ns,a≤M)→K (.int M) led hs):CallP C l led (.builtin "max") [.ref d] K:=⟨fun Q s us hu H k=>by
 obtain rfl:=oksR hu
 exact l_max H C.R.handled (.tail _ hm) hne fun M t s' H' h1 h2=>k _ _ _ _ _ (h M h1 h2) ⟨t,rfl⟩ H'⟩
theorem CallP.pop {d:Addr} {as:List Addr} {i:Nat} {K:KE} (hs:Hs) {j:Nat} (hj:led[j]?=some (d,.lst (as.map .ref))) (hz:as.length≤1000000) (hi:i<as.length) (h:setL (.lst ((as.eraseIdx i).map .ref)) led j fun led'=>K (.ref (as.getD i 0)) led' hs):CallP C l led (.builtin "list.pop") [.ref d,.int i] K:=⟨fun Q s us hu H k=>by
 obtain ⟨t,rfl⟩:=oksRI hu
 obtain ⟨led',U,q⟩:=setL_ok hj h
 have em:∀ (as:List Addr) i,(as.eraseIdx i).map VS.ref=(as.map VS.ref).eraseIdx i:=fun as=>by
  induction as with
  | nil=>intro i; rfl
  | cons a r ih=>
   intro i
   cases i with
   | zero=>rfl
   | succ i=>exact congrArg (VS.ref a::·) (ih i)
 rw [em] at U
 have hr:(as.map VS.ref)[i]?=some (.ref (as.getD i 0)):=by
  rw [List.getElem?_map,List.getD_eq_getElem?_getD,List.getElem?_eq_getElem hi]; rfl
 exact l_pop_at H (.tail U) (by rw [List.length_map]; exact hz) hr fun s' H'=>k _ _ _ _ _ q rfl H'⟩
theorem CallP.intI {x:Int} {K:KE} (hs:Hs) (h:K (.int x) led hs):CallP C l led (.type "int") [.int x] K:=⟨fun Q s us hu H k=>by
 obtain ⟨t,rfl⟩:=oksI hu
 exact i_int (k _ _ _ _ _ h ⟨t,rfl⟩ H)⟩
theorem CallP.sub {led2:Led} {f:Value} {vs:List VS} {K:KE} (h:Sub led2 led) (q:CallP C l led2 f vs K):CallP C l led f vs K:=⟨fun Q s us hu H k=>q.ok Q s us hu (H.sub h) k⟩
theorem IterP.range {r:Addr} {a b:Int} {m:Nat} (hz:-(2 ^ 60)<a∧a<2 ^ 60∧-(2 ^ 60)<b∧b<2 ^ 60) (he:(b-a).toNat=m):IterP C l ((r,rngO a b 1)::led) led (.ref r) (itrRange B a 1 m):=fun Q E s u hu H k=>by
 cases hu
 subst he
 exact it_range1 H (.tail _ (.head _)) hz.1 hz.2.1 hz.2.2.1 hz.2.2.2 fun ia s' H'=>k ia s' (H'.sub (.pick .head (.pick .head (.skip (.refl _)))))
theorem IterP.rangeD {r:Addr} {a b:Int} {m:Nat} (hz:-(2 ^ 30)<a∧a<2 ^ 30∧-(2 ^ 30)<b∧b<2 ^ 30) (he:(a-b).toNat=m):IterP C l ((r,rngO a b (-1))::led) led (.ref r) (itrRange B a (-1) m):=fun Q E s u hu H k=>by
 cases hu
 subst he
 exact it_rangeD H (.tail _ (.head _)) (by omega) (by omega) (by omega) (by omega) fun ia s' H'=>k ia s' (H'.sub (.pick .head (.pick .head (.skip (.refl _)))))
theorem IterP.list {d:Addr} {vs:List VS} (hm:(d,OS.lst vs)∈led):IterP C l led led (.ref d) (itrList B d vs):=fun Q E s u hu H k=>by
 cases hu
 exact it_list H (.tail _ hm) k
theorem IterP.listS {led':Led} {d:Addr} {vs:List VS} (hm:(d,OS.lst vs)∈led) (h:Sub led' led):IterP C l led led' (.ref d) (itrList B d vs):=fun Q E s u hu H k=>by
 cases hu
 exact it_list H (.tail _ hm) fun ia s' H'=>k ia s' (H'.sub (.pick .head (.pick .head h)))
theorem IterP.rev {r d:Addr} {vs:List VS}:IterP C l ((r,(itrRev B d vs).at_ 0)::led) led (.ref r) (itrRev B d vs):=fun Q E s u hu H k=>by
 cases hu
 have H1:St B ((r,(itrRev B d vs).at_ 0)::(C.env.locals,.ns l)::led) s:=H.perm (.swap ..)
 exact it_rev2 H1 (k r s H1)
theorem FoP.rng {ι:Type} {x y:Int} {z:Str} {p:Pos} {bd:List Stmt} {r:Addr} (m:Nat) (itm:Nat→Int) (J:Nat→ι→Prop) (fr:ι→Fr) (ld:ι→Led) (c0:ι) (hs:Nat→ι→Hs) (hs2:ι→Hs)
  (hz:-(2 ^ 60)<x∧x<2 ^ 60∧-(2 ^ 60)<y∧y<2 ^ 60) (hm:(y-x).toNat=m) (hit:∀ i:Nat,x+i=itm i) (h0:J 0 c0)
  (turn:∀ i c,i<m→J i c→∀ ia (N:Fr→Led→Prop),(∀ c' led2,J (i+1) c'→Sub ((ia,(itrRange B x 1 m).at_ (i+1))::ld c') led2→N (fr c') led2)→tgt C (fr c) (.Name z p) (.int (itm i)) ((ia,(itrRange B x 1 m).at_ (i+1))::ld c) (hs i c) (kBd C bd N K))
  (done:∀ c,J m c→K .next (fr c) (ld c) (hs2 c)):FoP C (fr c0) ((r,rngO x y 1)::ld c0) (.ref r) (.Name z p) bd K:=
 FoP.go (itrRange B x 1 m) J fr ld c0 (fun i=>.int (itm i)) hs hs2 (fun i _=>⟨by rw [← hit i]; show VS.int (x+i*1)=_; rw [Int.mul_one],rfl⟩) (IterP.range hz hm) h0 (fun _ _ _=>trivial) (fun _ _ _ _ _ _ _ _ _ q=>wpAny_pure q) turn done
end
end Mine
namespace Mine
open PySem PySem.W PyProof.Rows PySem.Spec PySem.Calls
noncomputable def mkF:List Str→List VS→List Str→Fr
 | [],_,ys=>ys.map fun y=>(y,.any)
 | x::xs,v::vs,ys=>(x,v)::mkF xs vs ys
 | _::_,[],_=>[]
noncomputable def allL:Nat→(List Value→Prop)→Prop
 | 0,P=>P []
 | n+1,P=>∀ u,allL n fun us=>P (u::us)
theorem allL_get:∀ {us:List Value} {n:Nat} {P:List Value→Prop},allL n P→us.length=n→P us
 | [],0,_,h,_=>h
 | u::us,n+1,_,h,e=>allL_get (us:=us) (n:=n) (h u) (Nat.succ.inj e)
noncomputable def nodupB:List Str→Bool
 | []=>true
 | x::r=>!(r.any (x == ·))&&nodupB r
theorem nodupB_ok:∀ {l:List Str},nodupB l=true→l.Nodup
 | [],_=>List.nodup_nil
 | x::r,h=>by
  unfold nodupB at h
  rw [Bool.and_eq_true] at h
  refine List.nodup_cons.mpr ⟨fun hm=>?_,nodupB_ok h.2⟩
  have:r.any (x == ·)=true:=List.any_eq_true.mpr ⟨x,hm,beq_self_eq_true x⟩
  rw [this] at h
  cases h.1
noncomputable def fnB (sc:Scope) (xs ys:List Str):Bool:=nodupB (xs++ys)&&xs.all (fun x=>sc.names.lookup x == some .local)&&sc.names.all (fun p=>!(p.2 == .cell))&&!sc.isCoroutine&&!sc.isGenerator&&sc.kind == .function
theorem mkF_names:∀ {xs:List Str} {vs:List VS} {ys:List Str},vs.length=xs.length→(mkF xs vs ys).map (·.1)=xs++ys
 | [],_,ys,_=>by unfold mkF; rw [List.map_map]; exact List.map_id' ys
 | x::xs,v::vs,ys,h=>by
  unfold mkF
  rw [List.map_cons,mkF_names (Nat.succ.inj h)]; rfl
theorem lookup_mem {bs:List (Str×Value)} {k:Str} {v:Value} (hn:(bs.map (·.1)).Nodup) (hm:(k,v)∈bs):bs.lookup k=some v:=by
 induction bs with
 | nil=>cases hm
 | cons b r ih=>
  rw [List.map_cons,List.nodup_cons] at hn
  rcases List.mem_cons.mp hm with rfl | hm
  ·rw [List.lookup_cons,beq_self_eq_true]
  ·have hne:(k == b.1)=false:=by
    rw [beq_eq_false_iff_ne]
    exact fun e=>hn.1 (e ▸ List.mem_map_of_mem (f:=(·.1)) hm)
   rw [List.lookup_cons,hne]
   exact ih hn.2 hm
theorem mkF_ok:∀ {xs:List Str} {vs:List VS} {us:List Value} {ys:List Str},vs.length=xs.length→oks vs us→∀ p∈mkF xs vs ys,p.2=.any∨∃ u,p.2.ok (some u)∧(p.1,u)∈xs.zip us
 | [],_,_,ys,_,_,p,hp=>by
  unfold mkF at hp
  obtain ⟨y,-,rfl⟩:=List.mem_map.mp hp
  exact .inl rfl
 | x::xs,v::vs,u::us,ys,h,ho,p,hp=>by
  unfold mkF at hp
  rcases List.mem_cons.mp hp with rfl | hp
  ·exact .inr ⟨u,ho.1,.head _⟩
  ·rcases mkF_ok (Nat.succ.inj h) ho.2 p hp with e | ⟨w,a,b⟩
   ·exact .inl e
   ·exact .inr ⟨w,a,.tail _ b⟩
 | _::_,[],_,_,h,_,_,_=>by cases h
noncomputable def kFn (N:VS→Led→Prop):KS:=fun f l led hs=>match f with
 | .ret v=>N v led
 | .next=>N .none led
 | _=>False
structure FnB (sc:Scope) (xs ys:List Str):Prop where
 nd:(xs++ys).Nodup
 loc:∀ x∈xs,sc.names.lookup x=some .local
 cell:∀ x∈sc.names,x.2≠.cell
 co:sc.isCoroutine=false
 gen:sc.isGenerator=false
 kind:sc.kind=.function
theorem fnB_ok {sc:Scope} {xs ys:List Str} (h:fnB sc xs ys=true):FnB sc xs ys:=by
 unfold fnB at h
 simp only [Bool.and_eq_true,List.all_eq_true,Bool.not_eq_true',beq_iff_eq,beq_eq_false_iff_ne] at h
 obtain ⟨⟨⟨⟨⟨h1,h2⟩,h3⟩,h4⟩,h5⟩,h6⟩:=h
 exact ⟨nodupB_ok h1,h2,h3,h4,h5,h6⟩
section
variable {B:Bs} {nm:NM} {n:Nat} {C:Cx B nm (n+1)} {l:Fr} {led:Led} {vs:List VS} {K:KE}
theorem CallF.call {C:Cx B nm n} {f:Value} (h:CallF C l led f vs K):CallP C l led f vs K:=⟨fun Q s us hu H k=>wp_call (h.ok Q s us hu H k)⟩
theorem fnX {f:Addr} {name qual:Str} {params:Arguments} {body:List Stmt} {scope:Scope} {dV kV doc pm cdv ct oc:Value} {an od:Option Addr} {osl:Array (Option Value)} (vs':List VS) (rz:Prop) (X:Led) (hs:Hs) (xs ys:List Str)
  (hr:rz→C.rz l∧Sub C.X X)
  (ho:(frag B.w.params).lookup f=some ⟨oc,od,.func (fnOf name qual params body scope dV kV doc pm an cdv ct),osl⟩) (hcd:codeIn (frag B.w.params) cdv qual=true)
  (hb:∀ us s,oks vs us→C.St l led s→∃ us',oks vs' us'∧BindsTo s (fnOf name qual params body scope dV kV doc pm an cdv ct) ⟨us,[]⟩ (xs.zip us')) (hlen:vs'.length=xs.length) (hc:fnB scope xs ys=true)
  (h:∀ D:Cx B scope.names n,(rz→∀ {l':Fr},D.rz l')→(∀ led',Sub ((C.env.locals,.ns l)::X) led'→Sub D.X led')→∀ N:VS→Led→Prop,(∀ v led2 hs2 led',K v led2 hs2→Sub ((C.env.locals,.ns l)::led2) led'→N v led')→
   mrun D 1000 (.W (mkF xs vs' ys) ((C.env.locals,.ns l)::led) hs body (kFn N))):CallF C l led (.ref f) vs K:=⟨fun Q s us0 hu0 H k=>by
 obtain ⟨us,hu,hbd⟩:=hb us0 s hu0 H
 obtain ⟨c1,c2,c3,c4,c5,c6⟩:=fnB_ok hc
 have hul:us.length=xs.length:=(oks_length hu).trans hlen
 have hz:(xs.zip us).map (·.1)=xs:=List.map_fst_zip (Nat.le_of_eq hul.symm)
 have hns:nsOk (mkF xs vs' ys) fun x=>(xs.zip us).reverse.lookup x:=by
  refine nsOk_binds (fun p hp=>?_) (by rw [mkF_names hlen]; exact c1) fun x hx=>by rw [mkF_names hlen]; exact List.mem_append_left _ (hz ▸ hx)
  rcases mkF_ok hlen hu p hp with e | ⟨u,e1,e2⟩
  ·rw [e]; trivial
  ·rw [lookup_mem (by rw [List.map_reverse,hz]; exact (List.reverse_perm xs).nodup_iff.mpr (List.nodup_append.mp c1).1) (List.mem_reverse.mpr e2)]
   exact e1
 have hloc:∀ y∈xs.zip us,scope.names.lookup y.1=some .local:=fun y hy=>c2 _ (hz ▸ List.mem_map_of_mem (f:=(·.1)) hy)
 have fin:∀ (D:Cx B scope.names n) (s':Shared),(rz→∀ {l':Fr},D.rz l')→(∀ led',Sub ((C.env.locals,.ns l)::X) led'→Sub D.X led')→D.St (mkF xs vs' ys) ((C.env.locals,.ns l)::led) s'→wpAny (model B.prog B.w) D.A (execs body D.env) (fun fl s'=>Q (fret fl) s') D.E s':=fun D s' hr' hX' H'=>by
  refine mrun_ok D _ _ (h D hr' hX' (fun v led'=>∃ led2 hs2,K v led2 hs2∧Sub ((C.env.locals,.ns l)::led2) led') fun v led2 hs2 led' a b=>⟨led2,hs2,a,b⟩) _ s' H' fun f l' led' hs' s2 fl q hf H2=>?_
  cases f with
  | next=>
   cases hf
   obtain ⟨led2,hs2,a,b⟩:=q
   exact k _ _ _ _ _ a rfl (St.sub H2 (.skip b))
  | ret v=>
   obtain ⟨u,e,hu⟩:=hf
   subst e
   obtain ⟨led2,hs2,a,b⟩:=q
   exact k _ _ _ _ _ a hu (St.sub H2 (.skip b))
  | _=>exact q.elim
 by_cases hrz:rz
 ·obtain ⟨hR,hX⟩:=hr hrz
  obtain ⟨x1,x2⟩:=C.hX l hR
  refine callx (led':=(C.env.locals,.ns l)::X) H C.R C.hB.X C.hB.T ho hcd hbd c3 hloc hns c4 c5 c6 (x1 X hX) (x2 X · · hX) fun L s' A' E' H' R' hE' hx=>?_
  refine fin ⟨A',E',env0 qual scope L f cdv,_,fun _=>rz,(C.env.locals,.ns l)::X,C.hB,R',rfl,c6,rfl,rfl,hE',fun _ _=>⟨_,rfl⟩,fun l2 _=>⟨fun led2 hs2=>FrOk.cons rfl c6 (.head _) ((x1 X hX).mono fun p hp=>.tail _ (hs2.mem p hp)),fun led2 v s2 hs2 x=>hx l2 v s2 (x.sub (.pick .head hs2) (FrOk.cons rfl c6 (.head _) ((x1 X hX).mono fun p hp=>.tail _ hp)))⟩⟩ s' (fun h {_}=>h) (fun _ q=>q) H'
 ·refine call0 H C.R C.hB.X C.hB.T ho hcd hbd c3 hloc hns c4 c5 c6 fun L s' A' E' H' R' hE'=>?_
  exact fin ⟨A',E',env0 qual scope L f cdv,_,fun _=>rz,(C.env.locals,.ns l)::X,C.hB,R',rfl,c6,rfl,rfl,hE',fun _ _=>⟨_,rfl⟩,fun _ q=>absurd q hrz⟩ s' (fun h {_}=>h) (fun _ q=>q) H'⟩
theorem fnF {f:Addr} {name qual:Str} {params:Arguments} {body:List Stmt} {scope:Scope} {dV kV doc pm cdv ct oc:Value} {an od:Option Addr} {osl:Array (Option Value)} (rz:Prop) (X:Led) (hs:Hs) (xs ys:List Str)
  (hr:rz→C.rz l∧Sub C.X X)
  (ho:(frag B.w.params).lookup f=some ⟨oc,od,.func (fnOf name qual params body scope dV kV doc pm an cdv ct),osl⟩) (hcd:codeIn (frag B.w.params) cdv qual=true)
  (hb:allL xs.length fun us=>∀ s,BindsTo s (fnOf name qual params body scope dV kV doc pm an cdv ct) ⟨us,[]⟩ (xs.zip us)) (hlen:vs.length=xs.length) (hc:fnB scope xs ys=true)
  (h:∀ D:Cx B scope.names n,(rz→∀ {l':Fr},D.rz l')→(∀ led',Sub ((C.env.locals,.ns l)::X) led'→Sub D.X led')→∀ N:VS→Led→Prop,(∀ v led2 hs2 led',K v led2 hs2→Sub ((C.env.locals,.ns l)::led2) led'→N v led')→
   mrun D 1000 (.W (mkF xs vs ys) ((C.env.locals,.ns l)::led) hs body (kFn N))):CallF C l led (.ref f) vs K:=fnX vs rz X hs xs ys hr ho hcd (fun us s hu _=>⟨us,hu,allL_get hb ((oks_length hu).trans hlen) s⟩) hlen hc h
theorem fnK {f:Addr} {name qual:Str} {params:Arguments} {body:List Stmt} {scope:Scope} {dV kV doc pm cdv ct oc:Value} {an od:Option Addr} {osl:Array (Option Value)} (rz:Prop) (X:Led) (hs:Hs) (xs ys:List Str)
  (hr:rz→C.rz l∧Sub C.X X)
  (ho:(frag B.w.params).lookup f=some ⟨oc,od,.func (fnOf name qual params body scope dV kV doc pm an cdv ct),osl⟩) (hcd:codeIn (frag B.w.params) cdv qual=true)
  (hb:allL xs.length fun us=>∀ s,BindsTo s (fnOf name qual params body scope dV kV doc pm an cdv ct) ⟨us,[]⟩ (xs.zip us)) (hlen:vs.length=xs.length) (hc:fnB scope xs ys=true)
  (h:∀ D:Cx B scope.names n,(rz→∀ {l':Fr},D.rz l')→(∀ led',Sub ((C.env.locals,.ns l)::X) led'→Sub D.X led')→∀ N:VS→Led→Prop,(∀ v led2 hs2 led',K v led2 hs2→Sub ((C.env.locals,.ns l)::led2) led'→N v led')→
   mrun D 1000 (.W (mkF xs vs ys) ((C.env.locals,.ns l)::led) hs body (kFn N))):CallP C l led (.ref f) vs K:=(fnF rz X hs xs ys hr ho hcd hb hlen hc h).call
end
end Mine
namespace Mine
open PySem PySem.W PyProof.Rows PySem.Spec PySem.Calls
theorem fe_callM {B:Bs} (hB:BOk B) {A:Around} {led:Led} {s:Shared} {Q E:Value→Shared→Prop} {x:Str} {t:Tok} {k:Int} {u:Tok} {envs:List Env} {n:Nat} (H:St B led s) (R:Rm A envs (n+4))
  (h:∀ e d s',St B ((e,.exc 51 (some d))::led) s'→Q (.ref e) s'):wpAny (model B.prog B.w) A (call (.ref 51) [.str x t,.int k u]) Q E s:=by
 refine fe_new hB H (R.le (by lia):Rm A envs ((n+1)+3)) (by simp) fun e s' A' H' R'=>?_
 clear H
 refine' call0 (binds:=[("self",.ref e),("what",.str x t),("at",.int k u)]) (l:=mkF ["self","what","at"] [.ref e,.is (.str x t),.int k] []) H' R' hB.X hB.T ?ho ?hcd ?hb ?hcell ?hloc ?hl ?hco ?hgen ?hk ?_
 case ho=>k_is
 case hcd=>k_is
 case hb=>exact BindsTo.of_eq rfl
 case hcell=>decide
 case hloc=>exact locs rfl
 case hco=>rfl
 case hgen=>rfl
 case hk=>rfl
 case hl=>
  refine nsOk_binds (fun p hp=>?_) (nodupB_ok rfl) (fun y hy=>hy)
  rcases mkF_ok (xs:=["self","what","at"]) (vs:=[.ref e,.is (.str x t),.int k]) (us:=[.ref e,.str x t,.int k u]) rfl ⟨rfl,rfl,⟨_,rfl⟩,trivial⟩ p hp with q | ⟨w,q1,q2⟩
  ·rw [q]; trivial
  ·show p.2.ok (List.lookup p.1 ((["self","what","at"]:List Str).zip [.ref e,.str x t,.int k u]).reverse)
   rw [lookup_mem (nodupB_ok rfl) (List.mem_reverse.mpr q2)]; exact q1
 clear H'
 intro L s' A' E' H' R' hE
 refine wpAny_execs_cons (plainObj_wpAny_Assign_Attribute (ldL H' (.head _) rfl (.tail _ (.head _)) ?_ rfl rfl rfl) rfl)
 refine ldL H' (.head _) rfl (.head _) ?_ rfl rfl rfl
 refine fe_first (v:=.is (.str x t)) hB H' (.tail .head) rfl (by k_is) fun s' H'=>?_
 refine wpAny_execs_cons (plainObj_wpAny_Assign_Attribute (ldL H' (.tail _ (.head _)) rfl (.tail _ (.tail _ (.head _))) (fun t'=>?_) rfl rfl rfl) rfl)
 refine ldL H' (.tail _ (.head _)) rfl (.head _) ?_ rfl rfl rfl
 refine fe_next (l:=[("what",.is (.str x t))]) (name := "at") (v:=.int k) hB H' (.tail _ (.tail _ (.head _))) .head ⟨_,rfl⟩ (lkp_none rfl) (Nat.le_of_ble_eq_true rfl) (by k_is) fun s' H'=>?_
 exact wpAny_execs_nil ⟨rfl,h e _ _ (H'.sub (Sub.ix [2] 2 _))⟩
section
variable {B:Bs} {nm:NM} {n:Nat} {C:Cx B nm n} {l:Fr} {led:Led} {s:Shared} {K:KS}
noncomputable def kRz (C:Cx B nm n):List VS→Led→Hs→Prop:=fun vs led hs=>match vs with
 | [.str _,.int _]=>Sub C.X led
 | _=>False
theorem StP.raise {C:Cx B nm (n+4)} {es:List Expr} {p1 p3 pos:Pos} (hs:Hs) (hz:C.rz l) (hn:nm.lookup (Str.ofString "FormatError")=some .globalImplicit) (he:noStar es=true) (h:mrun C 1000 (.A l led hs es (kRz C))):
  StP C l led (.Raise (some (.Call (.Name "FormatError" p1) es [] p3)) none pos) K:=⟨fun Q s H _=>by
 obtain ⟨x1,x2⟩:=C.hX l hz
 refine raise_ (envs:=C.fr) C.hB C.R (wpAny_Call_NameR (ldK H C.hB.X C.hB.T (show nsIn _ _ "FormatError" = some (some (.ref 51)) by k_is) ?_ C.hk (C.kind hn) C.hg (by decide)))
 refine cwr0 C.hB.X (keep_ok rfl) (back_any (star_any he)) (mrun_ok C _ _ h he _ _ s H fun vs led2 hs2 s2 us q hu H2=>?_)
 unfold kRz at q
 split at q
 ·obtain ⟨t,t',rfl⟩:=oksSI hu
  exact then_ H2 (fe_callM C.hB H2 C.R fun e d s3 H3=>⟨e,some d,_,rfl,H3,x1 _ q,fun x=>x2 _ _ s3 q ⟨e,false,rfl,x⟩⟩)
 ·exact q.elim⟩
noncomputable def kMk (x:Addr) (K:KE):KE:=fun v led hs=>match v with
 | .none=>K (.ref x) led hs
 | _=>False
theorem CallP.make {C:Cx B nm (n+1)} {c f:Addr} {vs:List VS} {K:KE} (hm:makesIn (frag B.w.params) c=true) (hi:findIn (frag B.w.params) (.ref c) "__init__" = some (some (.ref f))) (hf:isFn (frag B.w.params) (.ref f)=true)
  (h:∀ x dx (D:Cx B nm n),(∀ {l':Fr},C.rz l'→D.rz l')→(∀ led',Sub C.X led'→Sub D.X led')→CallF D l ((x,.inst c dx)::(dx,.attrs [])::led) (.ref f) (.ref x::vs) (kMk x K)):CallP C l led (.ref c) vs K:=⟨fun Q s us hu H k=>by
 refine wp_call (o_make H C.hB.X C.R hm hi hf fun x dx s1 A1 H1 R1=>?_)
 have q:=h x dx ⟨A1,fun v s=>∃ l led,C.rz l∧Sub C.X led∧ExIn B C.fr ((C.env.locals,.ns l)::led) v s,C.env,C.fr,C.rz,C.X,C.hB,R1,C.hnm,C.hk,C.hg,C.hb,fun v s ⟨l,led,hz,h1,x⟩=>by
   obtain ⟨o,e⟩:=C.hfr l hz
   have e2:A1.frames=some (C.env::o):=e ▸ R1.frames
   rw [e] at x
   exact exc_noted x e2 fun v s' x'=>⟨l,led,hz,h1,e ▸ x'⟩,C.hfr,fun l hz=>⟨(C.hX l hz).1,fun led v s h1 x=>⟨l,led,hz,h1,x⟩⟩⟩ (fun h=>h) (fun _ q=>q)
 have H2:St B ((C.env.locals,.ns l)::(x,.inst c dx)::(dx,.attrs [])::led) s1:=H1.sub (Sub.ix [2,0,0] 0 _)
 have q2:=q.ok (fun v s'=>v=.none∧Q (.ref x) s') s1 (.ref x::us) ⟨rfl,hu⟩ H2 fun v led2 hs2 s2 u q3 hu3 H3=>by
  cases v with
  | none=>cases hu3; exact ⟨rfl,k _ _ _ _ _ q3 rfl H3⟩
  | _=>exact q3.elim
 refine codeAny_mono q2 fun r s' q=>?_
 cases r with
 | error e=>
  obtain ⟨l,led,hz,h1,x⟩:=q
  exact (C.hX _ hz).2 led _ _ h1 x
 | ok fl=>cases fl <;> exact q⟩
end
end Mine
namespace Mine
open PySem PySem.W PyProof.Rows PySem.Spec PySem.Calls
noncomputable def nmC (scope:Scope) (nm:NM):NM:=scope.names.map fun (n,k)=>if (k == .free&&nm.lookup n == some .cell) then (n,.cell) else (n,k)
section
variable {B:Bs} {nm:NM} {n:Nat} (C:Cx B nm n)
theorem relabel_names (scope:Scope):(relabel scope C.env).names=nmC scope nm:=by
 show scope.names.map _=scope.names.map _
 congr 1
 funext x
 show (if (x.2 == .free&&C.env.scope.kind == .function&&C.env.kindOf x.1 == some .cell)=true then _ else _)=_
 rw [C.kind rfl,C.hk]
 show (if (x.2 == .free&&true&&nm.lookup x.1 == some .cell)=true then _ else _)=_
 rw [Bool.and_true]
noncomputable def Cx.comp (scope:Scope) (cl:List (Str×Addr)) (a:Addr) (hk:scope.kind=.function):Cx B (nmC scope nm) n where
 A:=C.A
 E:=fun _ _=>False
 env:=compEnvC scope cl a C.env
 fr:=C.fr
 rz:=fun _=>False
 X:=[]
 hB:=C.hB
 R:=C.R
 hnm:=relabel_names C scope
 hk:=hk
 hg:=C.hg
 hb:=C.hb
 hE:=eGood_false _ _ _
 hfr:=fun _ h=>h.elim
 hX:=fun _ h=>h.elim
end
noncomputable def kCe (N:VS→Fr→Led→Prop) (l:Fr):KE:=fun v led hs=>nany v=true∧N v l led
section
variable {B:Bs} {nm:NM} {n:Nat} (D:Cx B nm n)
noncomputable def kCb (elt:Expr) (N1:VS→Fr→Led→Prop) (N0:Fr→Led→Prop) (l:Fr):Bool→Led→Hs→Prop:=fun b led hs=>match b with
 | true=>mrun D 1000 (.E l led hs elt (kCe N1 l))
 | false=>N0 l led
noncomputable def kCt (elt:Expr) (ifs:List Expr) (N1:VS→Fr→Led→Prop) (N0:Fr→Led→Prop):KS:=fun f l led hs=>match f,ifs with
 | .next,[]=>mrun D 1000 (.E l led hs elt (kCe N1 l))
 | .next,[c]=>mrun D 1000 (.T l led hs c (kCb D elt N1 N0 l))
 | _,_=>False
theorem kCt_ok {elt:Expr} {ifs:List Expr} {t:Expr} {N1:VS→Fr→Led→Prop} {N0:Fr→Led→Prop} {l:Fr} {led:Led} {hs:Hs} {v:VS} {u:Value} {s:Shared} {P1:Value→Shared→Prop} {P0:Shared→Prop} (hE:D.E=fun _ _=>False)
  (h:tgt D l t v led hs (kCt D elt ifs N1 N0)) (hu:v.ok (some u)) (H:D.St l led s) (k1:∀ v l' led' s' u,nany v=true→N1 v l' led'→v.ok (some u)→D.St l' led' s'→P1 u s') (k0:∀ l' led' s',N0 l' led'→D.St l' led' s'→P0 s'):
  wpAny (model B.prog B.w) D.A (assign t D.env u) (fun _ s₂=>CTest B D.A D.env ifs (fun ok s₃=>if ok=true then wpAny (model B.prog B.w) D.A (eval elt D.env) P1 (fun _ _=>False) s₃ else P0 s₃) s₂) (fun _ _=>False) s:=by
 have q:=tgt_ok (Q:=fun f s₂=>match f with
  | .next=>CTest B D.A D.env ifs (fun ok s₃=>if ok=true then wpAny (model B.prog B.w) D.A (eval elt D.env) P1 (fun _ _=>False) s₃ else P0 s₃) s₂
  | _=>False) h hu H fun f l' led' hs' s' fl q hf H'=>by
   have el:∀ hs2 led2 s2,mrun D 1000 (.E l' led2 hs2 elt (kCe N1 l'))→D.St l' led2 s2→wpAny (model B.prog B.w) D.A (eval elt D.env) P1 (fun _ _=>False) s2:=fun hs2 led2 s2 q H2=>by
    have:=mrun_ok D _ _ q P1 s2 H2 fun v led3 hs3 s3 u q3 hu H3=>k1 _ _ _ _ _ q3.1 q3.2 hu H3
    rw [hE] at this
    exact this
   unfold kCt at q
   split at q
   ·cases hf
    exact ct_nil (by rw [if_pos rfl]; exact el _ _ _ q H')
   ·cases hf
    refine ct_one ?_
    have:=mrun_ok D _ _ q (fun ok s₃=>if ok=true then wpAny (model B.prog B.w) D.A (eval elt D.env) P1 (fun _ _=>False) s₃ else P0 s₃) s' H' fun b led3 hs3 s3 q3 H3=>by
     cases b with
     | true=>rw [if_pos rfl]; exact el _ _ _ q3 H3
     | false=>rw [if_neg (by decide)]; exact k0 _ _ _ q3 H3
    rw [hE] at this
    exact this
   ·exact q.elim
 rw [hE] at q
 exact q
end
section
variable {B:Bs} {nm:NM} {n:Nat} (C:Cx B nm n)
structure CmP (l:Fr) (led:Led) (v:VS) (elt t iter:Expr) (ifs:List Expr) (scope:Scope) (cl:List (Str×Addr)) (pos:Pos) (K:KE):Prop where
 ok:∀ (Q:Value→Shared→Prop) (s:Shared) u,v.ok (some u)→C.St l led s→(∀ v led' hs' s' u,K v led' hs'→v.ok (some u)→C.St l led' s'→Q u s')→wpAny (model B.prog B.w) C.A (pyIter u) (CompRest B C.A C.env scope cl elt t iter ifs pos Q C.E) C.E s
noncomputable def kCm (l:Fr) (elt t iter:Expr) (ifs:List Expr) (scope:Scope) (cl:List (Str×Addr)) (pos:Pos) (K:KE):KE:=fun v led hs=>CmP C l led v elt t iter ifs scope cl pos K
structure CmB (scope:Scope):Prop where
 kind:scope.kind=.function
 names:∀ y∈scope.names,y.2=.local→scope.names.lookup y.1=some .local
 cell:∀ y∈scope.names,y.2≠.cell
noncomputable def cmB (scope:Scope):Bool:=scope.kind == .function&&scope.names.all (fun y=>!(y.2 == .local)||scope.names.lookup y.1 == some .local)&&scope.names.all (fun y=>!(y.2 == .cell))
theorem cmB_ok {scope:Scope} (h:cmB scope=true):CmB scope:=by
 unfold cmB at h
 simp only [Bool.and_eq_true,List.all_eq_true,Bool.or_eq_true,Bool.not_eq_true',beq_iff_eq,beq_eq_false_iff_ne] at h
 exact ⟨h.1.1,fun y hy e=>(h.1.2 y hy).resolve_left fun q=>q e,h.2⟩
theorem EvP.comp {l:Fr} {led:Led} {elt t iter:Expr} {ifs:List Expr} {scope:Scope} {pos:Pos} {K:KE} (cl:List (Str×Addr)) (hs:Hs) (hc:cmB scope=true) (hcl:closureFor scope C.env=pure cl) (hf:∀ x,foldedSetIterable iter C.env x=pure x)
  (h:mrun C 1000 (.E l led hs iter (kCm C l elt t iter ifs scope cl pos K))):EvP C l led (.ListComp elt [⟨t,iter,ifs,0⟩] scope pos) K:=⟨fun Q s H k=>
 let hb:=cmB_ok hc
 comp_ cl hcl hb.kind hb.names hf (mrun_ok C _ _ h _ s H fun v led1 hs1 s1 u q hu H1=>q.ok Q s1 u hu H1 k)⟩
noncomputable def Self (I:Itr B):Prop:=∀ (A:Around) ia (s:Shared) (E' Q':Value→Shared→Prop) led,St B ((ia,I.at_ 0)::led) s→Q' (.ref ia) s→wpAny (model B.prog B.w) A (pyIter (.ref ia)) Q' E' s
noncomputable def LetGo (I:Itr B) (t:Expr):Prop:=∀ (A:Around) ia i led s v (Q:Unit→Shared→Prop) (E:Value→Shared→Prop),(I.item i).ok (some v)→St B ((ia,I.at_ (i+1))::led) s→Q () s→wpAny (model B.prog B.w) A (letOwnedTupleGo t (.ref ia) v) Q E s
theorem CmP.go {ι:Type} {l:Fr} {led:Led} {v:VS} {elt t iter:Expr} {ifs:List Expr} {scope:Scope} {cl:List (Str×Addr)} {pos:Pos} {K:KE} (I:Itr B) (l0:Fr) (J:Nat→List VS→ι→Prop) (ld:ι→Led) (c0:ι) (itm:Nat→VS) (hs:Nat→List VS→ι→Hs) (hs2:ι→Hs)
  (hc:cmB scope=true) (hl:nodupB (l0.map (·.1))=true∧∀ p∈l0,p.2=.any) (hi:∀ i,i<I.n→I.item i=itm i∧nany (itm i)=true) (hI:IterP C l led (ld c0) v I) (hself:Self I) (hlg:LetGo I t) (h0:J 0 [] c0) (hsv:∀ i vs c q,J i vs c→I.serves (q++(C.env.locals,.ns l)::ld c)) (hz:∀ i vs c,J i vs c→vs.length≤1000000)
  (turn:∀ i vs c,i<I.n→J i vs c→∀ ia a D (N1:VS→Fr→Led→Prop) (N0:Fr→Led→Prop),(∀ v c' l' led2,l'.map (·.1)=l0.map (·.1)→J (i+1) (vs++[v]) c'→Sub ((ia,I.at_ (i+1))::(D,.lst vs)::(C.env.locals,.ns l)::ld c') led2→N1 v l' led2)→
   (∀ c' l' led2,l'.map (·.1)=l0.map (·.1)→J (i+1) vs c'→Sub ((ia,I.at_ (i+1))::(D,.lst vs)::(C.env.locals,.ns l)::ld c') led2→N0 l' led2)→
   tgt (C.comp scope cl a (cmB_ok hc).kind) l0 t (itm i) ((ia,I.at_ (i+1))::(D,.lst vs)::(C.env.locals,.ns l)::ld c) (hs i vs c) (kCt (C.comp scope cl a (cmB_ok hc).kind) elt ifs N1 N0))
  (done:∀ D vs c,J I.n vs c→K (.ref D) ((D,.lst vs)::ld c) (hs2 c)):CmP C l led v elt t iter ifs scope cl pos K:=⟨fun Q s u hu H k=>
 hI _ _ s u hu H fun ia s1 H1=>comp_rest I C.R.handled H1 l0 hl.2 (nodupB_ok hl.1) (cmB_ok hc).cell (cmB_ok hc).kind (fun s E' Q' led h1 h2=>hself _ ia s E' Q' led h1 h2) (hlg _ ia)
  (fun i vs led'=>∃ c,J i vs c∧led'=(C.env.locals,.ns l)::ld c) ⟨c0,h0,rfl⟩ (fun i vs led' ⟨c,hJ,e⟩ q=>e ▸ hsv i vs c q hJ) (fun i vs led' ⟨c,hJ,_⟩=>hz i vs c hJ)
  (fun i vs led' a D s' hlt ⟨c,hJ,e⟩ H'=>by
   subst e
   rw [(hi i hlt).1]
   refine all_ok (hi i hlt).2 fun u hu=>kCt_ok (C.comp scope cl a (cmB_ok hc).kind) rfl (turn i vs c hlt hJ ia a D (fun v l' led2=>l'.map (·.1)=l0.map (·.1)∧∃ c',J (i+1) (vs++[v]) c'∧Sub ((ia,I.at_ (i+1))::(D,.lst vs)::(C.env.locals,.ns l)::ld c') led2)
    (fun l' led2=>l'.map (·.1)=l0.map (·.1)∧∃ c',J (i+1) vs c'∧Sub ((ia,I.at_ (i+1))::(D,.lst vs)::(C.env.locals,.ns l)::ld c') led2) (fun v c' l' led2 h1 h2 h3=>⟨h1,c',h2,h3⟩) fun c' l' led2 h1 h2 h3=>⟨h1,c',h2,h3⟩) hu H' (fun v l' led2 s2 u hv hN hu H2=>?_) fun l' led2 s2 hN H2=>?_
   ·obtain ⟨h1,c',h2,h3⟩:=hN
    exact ⟨v,_,l',hu,h1,⟨c',h2,rfl⟩,St.sub H2 (subF h3)⟩
   ·obtain ⟨h1,c',h2,h3⟩:=hN
    exact ⟨_,l',h1,⟨c',h2,rfl⟩,St.sub H2 (subF h3)⟩)
  (fun vs led' D s' ⟨c,hJ,e⟩ H'=>by subst e; exact k _ _ _ _ _ (done D vs c hJ) rfl (H'.perm (.swap ..)))⟩
end
end Mine
namespace Mine
open PySem PySem.W PyProof.Rows PySem.Spec PySem.Calls
section
variable {B:Bs} {nm:NM} {n:Nat} {C:Cx B nm n} {l:Fr} {led:Led} {K:KE}
theorem EvP.dict {pos:Pos} (hs:Hs) (h:∀ d,K (.ref d) ((d,idic B [])::led) hs):EvP C l led (.Dict [] [] pos) K:=⟨fun Q s H k=>d_new H fun d s' H'=>k _ _ _ _ _ (h d) rfl (Cx.St.swap H')⟩
theorem EvP.join {ι:Type} {t a b:Expr} {p:Pos} (P:ι→Prop) (v:ι→VS) (ld:ι→Led) (hs:Hs) (hs2:ι→Hs)
  (h:∀ N:VS→Led→Prop,(∀ c led2,P c→Sub (ld c) led2→N (v c) led2)→mrun C 1000 (.T l led hs t (kIf (mrun C 1000) l a b fun w led' _=>N w led'))) (h2:∀ c,P c→K (v c) (ld c) (hs2 c)):EvP C l led (.IfExp t a b p) K:=⟨fun Q s H k=>
 wpAny_IfExp (mrun_ok C _ _ (h (fun w led'=>∃ c,P c∧w=v c∧Sub (ld c) led') fun c led2 h1 h3=>⟨c,h1,rfl,h3⟩) _ s H fun c led1 hs1 s1 q H1=>by
  have fin:∀ w led2 (hs':Hs) s2 u,(∃ c,P c∧w=v c∧Sub (ld c) led2)→w.ok (some u)→C.St l led2 s2→Q u s2:=fun w led2 hs' s2 u ⟨c,h1,e,h3⟩ hu H2=>k _ _ _ _ _ (h2 c h1) (e ▸ hu) (H2.sub h3)
  cases c with
  | true=>exact mrun_ok C _ _ (show mrun C 1000 (.E _ _ _ _ _) from q) _ s1 H1 fin
  | false=>exact mrun_ok C _ _ (show mrun C 1000 (.E _ _ _ _ _) from q) _ s1 H1 fin)⟩
theorem EvP.tdict {pos:Pos} (hs:Hs) (h:∀ d,K (.ref d) ((d,tdic B [])::led) hs):EvP C l led (.Dict [] [] pos) K:=⟨fun Q s H k=>td_new H fun d s' H'=>k _ _ _ _ _ (h d) rfl (Cx.St.swap H')⟩
theorem SiP.dict {d a:Addr} {k:Int} {kvs:List (Int×Value)} {K:Led→Hs→Prop} (hs:Hs) (j:Nat) (hj:led[j]?=some (d,idic B kvs)) (hz:kvs.length≤1000000) (hn:k ∉ kvs.map (·.1)) (h:setL (idic B (kvs++[(k,.ref a)])) led j fun led'=>K led' hs):SiP C l led (.ref d) (.int k) (.ref a) K:=⟨fun Q s u w x hu hw hx H kk=>by
 cases hu; cases hx
 obtain ⟨t,e⟩:=hw
 cases e
 rw [← stored_new hn] at h
 obtain ⟨led',U,q⟩:=setL_ok hj h
 exact d_set H (.tail U) hz fun s' H'=>kk _ _ _ q H'⟩
theorem ItP.dict {ve ie:Expr} {d a:Addr} {k:Int} {kvs:List (Int×Value)} (hi:isIdx ie=true) (hs:Hs) (hm:(d,idic B kvs)∈led) (hv:valueAt kvs k=some (.ref a)) (h:K (.ref a) led hs):ItP C l led ve ie (.ref d) (.int k) K:=⟨fun Q s u w hu hw H kk=>by
 cases hu
 obtain ⟨t,e⟩:=hw
 cases e
 exact d_itemT H (.tail _ hm) hv (fun s' H'=>kk _ _ _ _ _ h rfl H') (sub_idx hi _ _)⟩
theorem ItP.last {ve ie:Expr} {d:Addr} {as:List Addr} (hi:isIdx ie=true) (hs:Hs) (hm:(d,OS.lst (as.map .ref))∈led) (h0:0<as.length) (hz:as.length<1000000) (h:K (.ref (as.getD (as.length-1) 0)) led hs):ItP C l led ve ie (.ref d) (.int (-1)) K:=⟨fun Q s u w hu hw H kk=>by
 cases hu
 obtain ⟨t,e⟩:=hw
 cases e
 refine l_item_last (v:=.ref (as.getD (as.length-1) 0)) H (.tail _ hm) (by rw [List.length_map]; exact hz) ?_ (kk _ _ _ _ _ h rfl H) (sub_idx hi _ _)
 rw [List.length_map,List.getElem?_map,List.getD_eq_getElem?_getD,List.getElem?_eq_getElem (Nat.sub_lt h0 Nat.one_pos)]; rfl⟩
theorem CallP.dget {d l0:Addr} {k:Int} {kvs:List (Int×Value)} (hs:Hs) (hm:(d,idic B kvs)∈led) {a:Addr} (ha:(valueAt kvs k).getD (.ref l0)=.ref a) (h:K (.ref a) led hs):CallP C l led (.builtin "dict.get") [.ref d,.int k,.ref l0] K:=⟨fun Q s us hu H kk=>by
 obtain ⟨t,rfl⟩:=oksRIR hu
 exact d_get2 H (.tail _ hm) fun s' H'=>kk _ _ _ _ _ h (by rw [ha]; rfl) H'⟩
theorem CallP.sorted {d:Addr} {as:List Addr} {ps:List (Int×Int)} (hs:Hs) (hm:(d,OS.lst (as.map .ref))∈led) {G:Led} (ht:Tups G as ps) (hG:∀ p∈G,p∈led) (hn:ps.Nodup) (h64:ps.length<64)
  (h:∀ r as' ps',ps'.Perm ps→ps'.Pairwise (fun p q=>plt p q=true)→Tups G as' ps'→K (.ref r) ((r,.lst (as'.map .ref))::led) hs):CallP C l led (.builtin "sorted") [.ref d] K:=⟨fun Q s us hu H kk=>by
 obtain rfl:=oksR hu
 exact sort_tups H (.tail _ hm) ht (fun p hp=>.tail _ (hG p hp)) hn h64 fun r as' ps' s' h1 h2 h3 H'=>kk _ _ _ _ _ (h r as' ps' h1 h2 h3) rfl (Cx.St.swap H')⟩
theorem SiP.tdict {d a:Addr} {x y sy:Int} {xs:List (List Int×Addr×Value)} {K:Led→Hs→Prop} (hs:Hs) (j:Nat) (hj:led[j]?=some (d,tdic B xs)) (hk:TKeys led xs) (ha:(a,OS.tup [.int x,.int y])∈led) (hz:xs.length≤1000000) (hn:atKey xs [x,y]=none) (h:∀ t,setL (tdic B (xs++[([x,y],a,.int sy t)])) led j fun led'=>K led' hs):SiP C l led (.ref d) (.ref a) (.int sy) K:=⟨fun Q s u w z hu hw hx H kk=>by
 cases hu; cases hw
 obtain ⟨t,e⟩:=hx
 cases e
 have h:=h t
 rw [← storedH_new hn] at h
 obtain ⟨led',U,q⟩:=setL_ok hj h
 exact td_set C.R H (.tail U) (hk.mono fun p hp=>.tail _ hp) (.tail _ ha) hz fun s' H'=>kk _ _ _ q H'⟩
theorem CoP.tdin {d a:Addr} {x y:Int} {xs:List (List Int×Addr×Value)} {K:Bool→Led→Hs→Prop} (hs:Hs) (hm:(d,tdic B xs)∈led) (hk:TKeys led xs) (ha:(a,OS.tup [.int x,.int y])∈led) (h:K (atKey xs [x,y]).isSome led hs):CoP C l led .In (.ref a) (.ref d) K:=⟨fun Q s u w hu hw H kk=>by
 cases hu; cases hw
 exact td_in C.R H (.tail _ hm) (hk.mono fun p hp=>.tail _ hp) (.tail _ ha) fun s' H'=>wpAny_truthy_bool (kk _ _ _ _ h H')⟩
theorem CoP.tdinE {d a:Addr} {x y:Int} {xs:List (List Int×Addr×Value)} {K:Bool→Led→Hs→Prop} (hs:Hs) (hm:(d,tdic B xs)∈led) (hk:TKeys led xs) (ha:(a,OS.tup [.int x,.int y])∈led) (ht:∀ p,atKey xs [x,y]=some p→K true led hs) (hf:atKey xs [x,y]=none→K false led hs):CoP C l led .In (.ref a) (.ref d) K:=
 CoP.tdin hs hm hk ha (by cases h:atKey xs [x,y] with | some p=>exact ht p h | none=>exact hf h)
theorem ItP.tdict {ve ie:Expr} {d a:Addr} {x y sy:Int} {t:Tok} {a':Addr} {xs:List (List Int×Addr×Value)} (hi:isIdx ie=true) (hs:Hs) (hm:(d,tdic B xs)∈led) (hk:TKeys led xs) (ha:(a,OS.tup [.int x,.int y])∈led) (hp:atKey xs [x,y]=some (a',.int sy t)) (h:K (.int sy) led hs):ItP C l led ve ie (.ref d) (.ref a) K:=⟨fun Q s u w hu hw H kk=>by
 cases hu; cases hw
 exact td_itemT C.R H (.tail _ hm) (hk.mono fun p hp=>.tail _ hp) (.tail _ ha) hp (fun s' H'=>kk _ _ _ _ _ h ⟨t,rfl⟩ H') (sub_idx hi _ _)⟩
theorem CallP.forItems {ι:Type} {x y:Str} {p1 p2 tp:Pos} {kk:Nat} {bd:List Stmt} {d:Addr} {kvs:List (Int×Value)} {K:KS} (j:Nat) (hj:led[j]?=some (d,idic B kvs)) (hv:∀ (i:Nat) (k:Int) (v:Value),kvs[i]?=some (k,v)→∃ a,v=Value.ref a) (J:Nat→ι→Prop) (fr:ι→Fr) (ld:Nat→ι→Led) (c0:ι) (hs:Nat→ι→Hs) (hs2:ι→Hs) (hfr:fr c0=l)
  (hU:∀ ep,setL (idicE B kvs ep) led j fun led'=>Sub (ld ep c0) led') (hmem:∀ ep i c,J i c→(d,idicE B kvs ep)∈ld ep c) (h0:J 0 c0)
  (turn:∀ ep i c (k:Int) (a1 a:Addr),kvs[i]?=some (k,Value.ref a1)→J i c→∀ ia (N:Fr→Led→Prop),(∀ c' led2,J (i+1) c'→Sub ((ia,ditr d kvs.length ep (i+1))::ld ep c') led2→N (fr c') led2)→tgt C (fr c) (.Tuple [.Name x p1,.Name y p2] kk tp) (.ref a) ((a,.tup [.int k,.ref a1])::(ia,ditr d kvs.length ep (i+1))::ld ep c) (hs i c) (kBd C bd N K))
  (done:∀ ep c,J kvs.length c→K .next (fr c) (ld ep c) (hs2 c)):CallP C l led (.builtin "dict.items") [.ref d] (kFo C l (.Tuple [.Name x p1,.Name y p2] kk tp) bd K):=⟨fun Q s us hu H k=>by
 obtain rfl:=oksR hu
 refine d_items H (.tail _ (at_mem hj)) fun v s' H'=>k (.ref v) ((v,dview d)::led) [] s' (.ref v) ⟨fun Q2 s2 u2 hu2 H2 k2=>?_⟩ rfl (Cx.St.swap H')
 cases hu2
 have H2:St B ((C.env.locals,.ns l)::(v,dview d)::led) s2:=H2
 obtain ⟨ep,hep⟩:=H2.toE (.tail _ (.tail _ (at_mem hj)))
 obtain ⟨led',U,hsub⟩:=setL_ok hj (hU ep)
 have H3:=hep _ (.tail (.tail U))
 refine it_items H3 (.tail _ (.head _)) (.tail _ (.tail _ (hsub.mem _ (hmem ep 0 c0 h0)))) fun ia s3 H4=>?_
 subst hfr
 refine for_items (kvs:=kvs) (ep:=ep) (d:=d) C.hE C.R.handled (led₀:=(C.env.locals,.ns (fr c0))::ld ep c0) (H4.sub (.pick .head (.pick .head (.skip hsub)))) (fun i led=>∃ c,J i c∧led=(C.env.locals,.ns (fr c))::ld ep c) ⟨c0,h0,rfl⟩ (fun i led ⟨c,hJ,e⟩=>e ▸ .tail _ (hmem ep i c hJ)) ?_ ?_
 ·rintro i led s5 k5 v5 a hv5 ⟨c,hJ,rfl⟩ H5
  obtain ⟨a1,rfl⟩:=hv i k5 v5 hv5
  have H6:C.St (fr c) ((a,.tup [.int k5,.ref a1])::(ia,ditr d kvs.length ep (i+1))::ld ep c) s5:=by
   have h1:=H5.sub (led':=(C.env.locals,.ns (fr c))::(a,.tup [.int k5,.is (.ref a1)])::(ia,ditr d kvs.length ep (i+1))::ld ep c) (Sub.ix [2,0,0] 0 _)
   refine h1.recast (.tail .head) fun ob hob=>?_
   obtain ⟨o,ho,hok⟩:=h1.get (.tail _ (.head _))
   rw [ho] at hob; cases hob
   obtain ⟨xs,n,e,h2⟩:=hok
   exact ⟨xs,n,e,by revert h2; generalize xs.toList=ys; intro h2; match ys,h2 with | [],h2=>exact h2 | [_],h2=>exact h2 | [_,_],h2=>exact h2 | _::_::_::_,h2=>exact h2⟩
  refine tgt_ok (Q:=fun f s₂=>match f with
   | .next=>wpAny (model B.prog B.w) C.A (execs bd C.env) (fun f s₃=>match f with
    | .next=>∃ led',(∃ c,J (i+1) c∧led'=(C.env.locals,.ns (fr c))::ld ep c)∧St B ((ia,ditr d kvs.length ep (i+1))::led') s₃
    | .cont=>∃ led',(∃ c,J (i+1) c∧led'=(C.env.locals,.ns (fr c))::ld ep c)∧St B ((ia,ditr d kvs.length ep (i+1))::led') s₃
    | .brk=>Q2 .next s₃
    | .ret v=>Q2 (.ret v) s₃) C.E s₂
   | _=>False) (turn ep i c k5 a1 a hv5 hJ ia (fun l' led2=>∃ c',J (i+1) c'∧l'=fr c'∧Sub ((ia,ditr d kvs.length ep (i+1))::ld ep c') led2) fun c' led2 h1 h2=>⟨c',h1,rfl,h2⟩) rfl H6 fun f l' led2 hs' s2 fl q hf H7=>?_
  cases f with
  | next=>
   cases hf
   have q:mrun C 1000 (.W _ _ _ _ _):=q
   refine mrun_ok C _ _ q _ s2 H7 (loopK (fun l' led' s3 hN H8=>?_) k2)
   obtain ⟨c',h1,rfl,h3⟩:=hN
   exact ⟨_,⟨c',h1,rfl⟩,(H8.sub h3).perm (.swap ..)⟩
  | _=>exact q.elim
 ·rintro led s5 ⟨c,hJ,rfl⟩ H5
  exact k2 _ _ _ _ _ _ (done ep c hJ) rfl H5⟩
end
section
variable {B:Bs} {nm:NM} {n:Nat} {C:Cx B nm (n+1)} {l:Fr} {led:Led} {vs:List VS} {K:KE}
theorem fnT {A:Around} {envs:List Env} {led:Led} {s:Shared} {Q E:Value→Shared→Prop} {f:Addr} {name qual:Str} {params:Arguments} {body:List Stmt} {scope:Scope} {dV kV doc pm cdv ct oc:Value} {an od:Option Addr} {osl:Array (Option Value)} {us:List Value} (hB:BOk B) (R:Rm A envs (n+1)) (hs:Addr→Hs) (xs:List Str) (l1:Fr) (cl:List (Str×Nat×VS)) (cled:Addr→Led→Led) (hled:∀ L r,cellLed L cl++r=cled L r) (KV:VS→Led→Prop)
  (ho:(frag B.w.params).lookup f=some ⟨oc,od,.func (fnOf name qual params body scope dV kV doc pm an cdv ct),osl⟩) (hcd:codeIn (frag B.w.params) cdv qual=true)
  (hb:bindArgs (fnOf name qual params body scope dV kV doc pm an cdv ct) ⟨us,[]⟩=pure (xs.zip us)) (hlen:us.length=xs.length)
  (hkind:∀ L,∀ x∈xs,scope.names.lookup x=some .local∨(scope.names.lookup x=some .cell∧((cellsFrom (L+1) scope.names []).lookup x).isSome=true))
  (hl:nsOk l1 (bindL (fun x=>scope.names.lookup x) (xs.zip us) fun _=>none))
  (hcl:∀ L,∀ c∈cl,(cellsFrom (L+1) scope.names []).lookup c.1=some (L+1+c.2.1)∧c.2.2.ok (bindC (fun x=>scope.names.lookup x) (xs.zip us) (fun _=>none) c.1)) (hnd:(cl.map (·.2.1)).Nodup)
  (hc:(!scope.isCoroutine&&!scope.isGenerator&&scope.kind == .function)=true) (H:St B led s)
  (h:∀ (L:Addr) (D:Cx B scope.names n),D.env=envX qual scope L f cdv (cellsFrom (L+1) scope.names [])→D.fr=D.env::envs→∀ N:VS→Led→Prop,(∀ v led',KV v led'→N v led')→
   mrun D 1000 (.W l1 (cled L led) (hs L) body (kFn N))) (k:∀ v led' u s',KV v led'→v.ok (some u)→St B led' s'→Q u s'):codeAny (model B.prog B.w) A (.call (.ref f) ⟨us,[]⟩) (RQ Q E) s:=by
 simp only [Bool.and_eq_true,Bool.not_eq_true',beq_iff_eq] at hc
 obtain ⟨⟨c4,c5⟩,c6⟩:=hc
 have hz:(xs.zip us).map (·.1)=xs:=List.map_fst_zip (Nat.le_of_eq hlen.symm)
 refine call0C H R hB.X hB.T ho hcd hb (fun L x hx=>hkind L x.1 (hz ▸ List.mem_map_of_mem (f:=(·.1)) hx)) hl hcl hnd c4 c5 c6 fun L s' A' E' H' R' hE'=>?_
 refine mrun_ok ⟨A',E',_,_,fun _=>False,[],hB,R',rfl,c6,rfl,rfl,hE',fun _ q=>q.elim,fun _ q=>q.elim⟩ _ _ (h L _ rfl rfl KV fun _ _ a=>a) _ s' (hled L _ ▸ H') fun f l' led' hs' s2 fl q hf H2=>?_
 cases f with
 | next=>cases hf; exact k _ _ _ _ q rfl (St.sub H2 (.skip (.refl _)))
 | ret v=>
  obtain ⟨u,e,hu⟩:=hf
  subst e
  exact k _ _ _ _ q hu (St.sub H2 (.skip (.refl _)))
 | _=>exact q.elim
theorem fnC {f:Addr} {name qual:Str} {params:Arguments} {body:List Stmt} {scope:Scope} {dV kV doc pm cdv ct oc:Value} {an od:Option Addr} {osl:Array (Option Value)} (hs:Addr→Hs) (xs:List Str) (l1:Fr) (cl:List (Str×Nat×VS)) (cled:Addr→Led→Led) (hled:∀ L r,cellLed L cl++r=cled L r)
  (ho:(frag B.w.params).lookup f=some ⟨oc,od,.func (fnOf name qual params body scope dV kV doc pm an cdv ct),osl⟩) (hcd:codeIn (frag B.w.params) cdv qual=true)
  (hb:allL xs.length fun us=>bindArgs (fnOf name qual params body scope dV kV doc pm an cdv ct) ⟨us,[]⟩=pure (xs.zip us)) (hlen:vs.length=xs.length)
  (hkind:∀ L,∀ x∈xs,scope.names.lookup x=some .local∨(scope.names.lookup x=some .cell∧((cellsFrom (L+1) scope.names []).lookup x).isSome=true))
  (hl:∀ us,oks vs us→nsOk l1 (bindL (fun x=>scope.names.lookup x) (xs.zip us) fun _=>none))
  (hcl:∀ L us,oks vs us→∀ c∈cl,(cellsFrom (L+1) scope.names []).lookup c.1=some (L+1+c.2.1)∧c.2.2.ok (bindC (fun x=>scope.names.lookup x) (xs.zip us) (fun _=>none) c.1)) (hnd:(cl.map (·.2.1)).Nodup)
  (hc:(!scope.isCoroutine&&!scope.isGenerator&&scope.kind == .function)=true)
  (h:∀ (L:Addr) (D:Cx B scope.names n),D.env=envX qual scope L f cdv (cellsFrom (L+1) scope.names [])→D.fr=D.env::C.fr→∀ N:VS→Led→Prop,(∀ v led2 hs2 led',K v led2 hs2→Sub ((C.env.locals,.ns l)::led2) led'→N v led')→
   mrun D 1000 (.W l1 (cled L ((C.env.locals,.ns l)::led)) (hs L) body (kFn N))):CallP C l led (.ref f) vs K:=⟨fun Q s us hu H k=>
 have hul:us.length=xs.length:=(oks_length hu).trans hlen
 wp_call (fnT C.hB C.R hs xs l1 cl cled hled (fun v led'=>∃ led2 hs2,K v led2 hs2∧Sub ((C.env.locals,.ns l)::led2) led') ho hcd (allL_get hb hul) hul hkind (hl us hu) (fun L=>hcl L us hu) hnd hc H (fun L D a b N hN=>h L D a b N fun v led2 hs2 led' x y=>hN v led' ⟨led2,hs2,x,y⟩) fun v led' u s' ⟨led2,hs2,a,b⟩ hv H'=>k _ _ _ _ _ a hv (St.sub H' b))⟩
end
noncomputable def swB (nm:NM) (y:Str) (py:Pos) (scope:Scope) (pos:Pos):Bool:=isLoc nm y&&py.line == pos.line&&!(scope.names.any fun (n,k)=>n == y&&(k == .local||k == .cell))
section
variable {B:Bs} {nm:NM} {n:Nat} (C:Cx B nm n)
theorem swap_true {y:Str} {py pos:Pos} {scope:Scope} {elt:Expr} {gs:List Comprehension} {k:Nat} (h:swB nm y py scope pos=true):swapsWith (.ListComp elt gs scope pos) (some (.Name y py)) k C.env=pure true:=by
 unfold swB at h
 rw [Bool.and_eq_true,Bool.and_eq_true] at h
 obtain ⟨⟨h1,h2⟩,h3⟩:=h
 show (pure (C.env.blockKind == .function&&C.env.kindOf y == some .local&&py.line == pos.line&&!(scope.names.any fun (n,k)=>n == y&&(k == .local||k == .cell))):Sem Bool)=pure true
 have e1:C.env.blockKind=.function:=by unfold Env.blockKind; rw [C.hk]; rfl
 rw [e1,C.kind (isLoc_of h1).1,h2,h3]; rfl
structure CmU (l:Fr) (led:Led) (v:VS) (y:Str) (py:Pos) (elt t iter:Expr) (ifs:List Expr) (scope:Scope) (cl:List (Str×Addr)) (pos:Pos) (K:KS):Prop where
 ok:∀ (Q:Flow→Shared→Prop) (s:Shared) u,v.ok (some u)→C.St l led s→(∀ f l' led' hs' s' fl,K f l' led' hs'→f.ok fl→C.St l' led' s'→Q fl s')→wpAny (model B.prog B.w) C.A (pyIter u) (CompRestU B C.A C.env y py scope cl elt t iter ifs pos (Q .next) C.E) C.E s
noncomputable def kCu (l:Fr) (y:Str) (py:Pos) (elt t iter:Expr) (ifs:List Expr) (scope:Scope) (cl:List (Str×Addr)) (pos:Pos) (K:KS):KE:=fun v led hs=>CmU C l led v y py elt t iter ifs scope cl pos K
theorem StP.compU {l:Fr} {led:Led} {y:Str} {py:Pos} {elt t iter:Expr} {ifs:List Expr} {scope:Scope} {pos spos:Pos} {K:KS} (cl:List (Str×Addr)) (hs:Hs) (hc:cmB scope=true) (hsw:swB nm y py scope pos=true) (hcl:closureFor scope C.env=pure cl) (hf:∀ x,foldedSetIterable iter C.env x=pure x)
  (h:mrun C 1000 (.E l led hs iter (kCu C l y py elt t iter ifs scope cl pos K))):StP C l led (.Assign [.Name y py] (.ListComp elt [⟨t,iter,ifs,0⟩] scope pos) spos) K:=⟨fun Q s H k=>
 let hb:=cmB_ok hc
 compU_ cl (swap_true C hsw) hcl hb.kind hb.names hf (mrun_ok C _ _ h _ s H fun v led1 hs1 s1 u q hu H1=>q.ok Q s1 u hu H1 k)⟩
theorem CmU.go {ι:Type} {l:Fr} {led:Led} {v:VS} {y:Str} {py:Pos} {elt t iter:Expr} {ifs:List Expr} {scope:Scope} {cl:List (Str×Addr)} {pos:Pos} {K:KS} (I:Itr B) (l0:Fr) (J:Nat→List VS→ι→Prop) (ld:ι→Led) (c0:ι) (itm:Nat→VS) (hs:Nat→List VS→ι→Hs) (hs2:ι→Hs)
  (hc:cmB scope=true) (hy:isLoc nm y=true) (hl:nodupB (l0.map (·.1))=true∧∀ p∈l0,p.2=.any) (hi:∀ i,i<I.n→I.item i=itm i∧nany (itm i)=true) (hI:IterP C l led (ld c0) v I) (hself:Self I) (hlg:LetGo I t) (h0:J 0 [] c0) (hsv:∀ i vs c q,J i vs c→I.serves (q++(C.env.locals,.ns l)::ld c)) (hz:∀ i vs c,J i vs c→vs.length≤1000000)
  (turn:∀ i vs c,i<I.n→J i vs c→∀ ia a D (N1:VS→Fr→Led→Prop) (N0:Fr→Led→Prop),(∀ v c' l' led2,l'.map (·.1)=l0.map (·.1)→J (i+1) (vs++[v]) c'→Sub ((ia,I.at_ (i+1))::(D,.lst vs)::(C.env.locals,.ns l)::ld c') led2→N1 v l' led2)→
   (∀ c' l' led2,l'.map (·.1)=l0.map (·.1)→J (i+1) vs c'→Sub ((ia,I.at_ (i+1))::(D,.lst vs)::(C.env.locals,.ns l)::ld c') led2→N0 l' led2)→
   tgt (C.comp scope cl a (cmB_ok hc).kind) l0 t (itm i) ((ia,I.at_ (i+1))::(D,.lst vs)::(C.env.locals,.ns l)::ld c) (hs i vs c) (kCt (C.comp scope cl a (cmB_ok hc).kind) elt ifs N1 N0))
  (done:∀ D vs c,J I.n vs c→putK y (.ref D) l fun l'=>K .next l' ((D,.lst vs)::ld c) (hs2 c)):CmU C l led v y py elt t iter ifs scope cl pos K:=⟨fun Q s u hu H k=>
 hI _ _ s u hu H fun ia s1 H1=>compU_rest I C.R.handled H1 l0 hl.2 (nodupB_ok hl.1) (cmB_ok hc).cell (cmB_ok hc).kind (fun s E' Q' led h1 h2=>hself _ ia s E' Q' led h1 h2) (hlg _ ia)
  (fun i vs led'=>∃ c,J i vs c∧led'=(C.env.locals,.ns l)::ld c) ⟨c0,h0,rfl⟩ (fun i vs led' ⟨c,hJ,e⟩ q=>e ▸ hsv i vs c q hJ) (fun i vs led' ⟨c,hJ,_⟩=>hz i vs c hJ)
  (fun i vs led' a D s' hlt ⟨c,hJ,e⟩ H'=>by
   subst e
   rw [(hi i hlt).1]
   refine all_ok (hi i hlt).2 fun u hu=>kCt_ok (C.comp scope cl a (cmB_ok hc).kind) rfl (turn i vs c hlt hJ ia a D (fun v l' led2=>l'.map (·.1)=l0.map (·.1)∧∃ c',J (i+1) (vs++[v]) c'∧Sub ((ia,I.at_ (i+1))::(D,.lst vs)::(C.env.locals,.ns l)::ld c') led2)
    (fun l' led2=>l'.map (·.1)=l0.map (·.1)∧∃ c',J (i+1) vs c'∧Sub ((ia,I.at_ (i+1))::(D,.lst vs)::(C.env.locals,.ns l)::ld c') led2) (fun v c' l' led2 h1 h2 h3=>⟨h1,c',h2,h3⟩) fun c' l' led2 h1 h2 h3=>⟨h1,c',h2,h3⟩) hu H' (fun v l' led2 s2 u hv hN hu H2=>?_) fun l' led2 s2 hN H2=>?_
   ·obtain ⟨h1,c',h2,h3⟩:=hN
    exact ⟨v,_,l',hu,h1,⟨c',h2,rfl⟩,St.sub H2 (subF h3)⟩
   ·obtain ⟨h1,c',h2,h3⟩:=hN
    exact ⟨_,l',h1,⟨c',h2,rfl⟩,St.sub H2 (subF h3)⟩)
  (fun vs led' a D s' ⟨c,hJ,e⟩ H'=>by
   subst e
   obtain ⟨l',P,q⟩:=putK_ok (done D vs c hJ)
   exact as_name (stN H' (.tail (.tail .head)) rfl P rfl (fun s2 H2=>⟨_,H2,fun s3 H3=>k _ _ _ _ _ _ q rfl (H3.perm (.swap ..))⟩) C.hk (C.kind (isLoc_of hy).1)))⟩
end
end Mine
namespace Mine
open PySem PySem.W PyProof.Rows PySem.Spec PySem.Calls
section
noncomputable abbrev bw (o:Addr):OS:=.attrs [("out",.ref o)]
section
variable {B:Bs} {nm:NM} {n:Nat} {l:Fr} {own:Led} {K:KE} {x dx o:Addr} {ns:List Int}
theorem bw_new {C:Cx B nm (n+3)} (hs:Hs) (hK:∀ x dx o,K (.ref x) ((x,.inst 98 dx)::(dx,bw o)::(o,ilst [])::own) hs):CallP C l own (.ref 98) [] K:=by
 refine CallP.make (f:=67) (by k_is) (by k_is) (by k_is) fun x dx D _ _=>?_
 refine' fnF False [] [.i 2,.i 3] ["self"] [] (fun h=>h.elim) ?fa ?fb ?fc rfl ?fe (fun E _ _ N hN=>?_)
 (case fa=>k_is); (case fb=>k_is); (case fc=>exact fun _ _=>BindsTo.of_eq rfl); (case fe=>rfl)
 conv=>whnf
 intro o
 conv=>whnf
 refine ⟨⟨rfl,rfl⟩,?_⟩
 conv=>whnf
 exact hN .none _ hs _ (hK x dx o) (Sub.ix [1,1,1,0] 0 _)
end
noncomputable def leb (n:Int):List Int:=if 2*n>127 then [128+2*n % 128,2*n / 128] else [2*n]
section
variable {B:Bs} {nm:NM} {n:Nat} {l:Fr} {own:Led} {K:KE} {x dx o:Addr} {ns:List Int}
theorem bw_number {C:Cx B nm (n+3)} {k:Int} (hs:Hs) (h0:0≤k) (h1:k≤8000) (hz:ns.length<1000000)
  (hK:K .none ((x,.inst 98 dx)::(dx,bw o)::(o,ilst (ns++leb k))::own) hs):CallP C l ((x,.inst 98 dx)::(dx,bw o)::(o,ilst ns)::own) (.ref 81) [.ref x,.int k] K:=by
 refine' fnK False [] [] ["self","n"] ["rest"] (fun h=>h.elim) ?fa ?fb ?fc rfl ?fe (fun D _ _ N hN=>?_)
 (case fa=>k_is); (case fb=>k_is); (case fc=>exact fun _ _ _=>BindsTo.of_eq rfl); (case fe=>rfl)
 conv=>whnf
 refine ⟨fun _=>?_,fun h=>absurd h0 h⟩
 conv=>whnf
 refine ⟨IntMulOk.of_left (intBits_le_64 (by decide) (by decide)),?_⟩
 conv=>whnf
 refine StP.while_ (ι:=Bool) (fun j c=>match c with
  | true=>j=1
  | false=>j=0∧2*k>127) (fun c=>[("self",.ref x),("n",.int k),("rest",.int (bif c then 2*k else 2*k / 128))])
  (fun c=>(C.env.locals,.ns l)::(x,.inst 98 dx)::(dx,bw o)::(o,ilst (bif c then ns else ns++[128+2*k % 128]))::own) 1 true (fun c=>[.i 1,.i 2,.u 3 (bif c then ns else ns++[128+2*k % 128])]) rfl ?_
 intro j c hI N2 hN2
 cases c with
 | true=>
  conv=>whnf
  refine ⟨fun hc=>?_,fun hc=>?_⟩
  ·have hc:2*k>127:=hc
   conv=>whnf
   refine ⟨⟨rfl,rfl⟩,?_⟩
   conv=>whnf
   refine ⟨(at_mem (j:=3) rfl),?_⟩
   conv=>whnf
   refine ⟨by decide,?_⟩
   conv=>whnf
   refine ⟨Nat.le_of_lt hz,rfl,?_⟩
   conv=>whnf
   refine ⟨⟨by decide,PyProof.noPylong_small (by decide)⟩,?_⟩
   conv=>whnf
   exact hN2 0 false _ (by rw [hI]; exact Nat.zero_lt_one) ⟨rfl,hc⟩ (Sub.refl _)
  ·conv=>whnf
   refine ⟨⟨rfl,rfl⟩,?_⟩
   conv=>whnf
   refine ⟨(at_mem (j:=3) rfl),?_⟩
   conv=>whnf
   refine ⟨Nat.le_of_lt hz,rfl,?_⟩
   conv=>whnf
   have e:leb k=[2*k]:=if_neg hc
   rw [e] at hK
   exact hN .none _ hs _ hK (Sub.refl _)
 | false=>
  conv=>whnf
  refine ⟨fun hq=>absurd hq (by show ¬ (2*k / 128>127); lia),fun _=>?_⟩
  conv=>whnf
  refine ⟨⟨rfl,rfl⟩,?_⟩
  conv=>whnf
  refine ⟨(at_mem (j:=3) rfl),?_⟩
  conv=>whnf
  refine ⟨by show (ns++[128+2*k % 128]).length≤_; rw [List.length_append]; exact Nat.succ_le_of_lt hz,rfl,?_⟩
  conv=>whnf
  have e:ns++leb k=(ns++[128+2*k % 128])++[2*k / 128]:=by unfold leb; rw [if_pos hI.2,List.append_assoc]; rfl
  rw [e] at hK
  exact hN .none _ hs _ hK (Sub.refl _)
end
end
section
theorem idx1 {a n:Nat} (h:a<n) (hz:n<1000000):0≤(a:Int)∧(a:Int)<n∧n<1000000:=⟨Int.natCast_nonneg a,Int.ofNat_lt.mpr h,hz⟩
theorem idx2 {a b n:Nat} (h:a+b<n) (hz:n<1000000):0≤(a:Int)+b∧(a:Int)+b<n∧n<1000000:=idx1 h hz
noncomputable abbrev br (d:Addr) (at_:Nat):OS:=.attrs [("data",.ref d),("at",.int (at_:Nat))]
noncomputable def Bytes (ns:List Int):Prop:=∀ k:Nat,0≤ns.getD k 0∧ns.getD k 0<256
section
variable {B:Bs} {nm:NM} {n:Nat} {l:Fr} {own:Led} {K:KE} {x dx d:Addr} {ns:List Int} {at_:Nat}
theorem br_new {C:Cx B nm (n+3)} (hs:Hs) (hK:∀ x dx,K (.ref x) ((x,.inst 168 dx)::(dx,br d 0)::own) hs):CallP C l own (.ref 168) [.ref d] K:=by
 refine CallP.make (f:=116) (by k_is) (by k_is) (by k_is) fun x dx D _ _=>?_
 refine' fnF False [] [.i 1,.i 2,.i 1,.i 2] ["self","data"] [] (fun h=>h.elim) ?fa ?fb ?fc rfl ?fe (fun E _ _ N hN=>?_)
 (case fa=>k_is); (case fb=>k_is); (case fc=>exact fun _ _ _=>BindsTo.of_eq rfl); (case fe=>rfl)
 conv=>whnf
 refine ⟨⟨rfl,rfl⟩,?_⟩
 conv=>whnf
 refine ⟨⟨rfl,rfl⟩,?_⟩
 conv=>whnf
 exact hN .none _ hs _ (hK x dx) (Sub.refl _)
theorem br_fail {C:Cx B nm (n+5)} {w:Str} (hr:C.rz l∧Sub C.X own):CallP C l ((x,.inst 168 dx)::(dx,br d at_)::own) (.ref 123) [.ref x,.str w] K:=by
 refine' fnK True own [.i 1,.i 2] ["self","what"] [] (fun _=>hr) ?fa ?fb ?fc rfl ?fe (fun D hz hX N hN=>?_)
 (case fa=>k_is); (case fb=>k_is); (case fc=>exact fun _ _ _=>BindsTo.of_eq rfl); (case fe=>rfl)
 conv=>whnf
 refine StP.raise [.i 1,.i 2] (hz trivial) rfl rfl ?_
 conv=>whnf
 refine ⟨⟨rfl,rfl⟩,?_⟩
 conv=>whnf
 exact hX _ (Sub.ix [0] 2 _)
theorem br_done {C:Cx B nm (n+3)} (hs:Hs) (hz:ns.length<1000000) (hK:K (.bool (decide ((at_:Int)≥ns.length))) ((x,.inst 168 dx)::(dx,br d at_)::(d,ilst ns)::own) hs):
  CallP C l ((x,.inst 168 dx)::(dx,br d at_)::(d,ilst ns)::own) (.ref 130) [.ref x] K:=by
 refine' fnK False [] [.i 1,.i 2,.i 1,.i 2,.l ns] ["self"] [] (fun h=>h.elim) ?fa ?fb ?fc rfl ?fe (fun D _ _ N hN=>?_)
 (case fa=>k_is); (case fb=>k_is); (case fc=>exact fun _ _=>BindsTo.of_eq rfl); (case fe=>rfl)
 conv=>whnf
 refine ⟨⟨rfl,rfl⟩,?_⟩
 conv=>whnf
 refine ⟨⟨rfl,rfl⟩,?_⟩
 conv=>whnf
 refine ⟨⟨(at_mem (j:=3) rfl),hz⟩,?_⟩
 conv=>whnf
 exact hN _ _ hs _ hK (Sub.refl _)
theorem br_byte {C:Cx B nm (n+7)} (hs:Hs) (hz:ns.length<1000000) (hb:Bytes ns) (hr:ns.length≤at_→C.rz l∧Sub C.X ((d,ilst ns)::own))
  (hK:at_<ns.length→K (.int (ns.getD at_ 0)) ((x,.inst 168 dx)::(dx,br d (at_+1))::(d,ilst ns)::own) hs):CallP C l ((x,.inst 168 dx)::(dx,br d at_)::(d,ilst ns)::own) (.ref 137) [.ref x] K:=by
 refine' fnK (ns.length≤at_) ((d,ilst ns)::own) [.i 1,.i 2] ["self"] ["value"] hr ?fa ?fb ?fc rfl ?fe (fun D hz' hX N hN=>?_)
 (case fa=>k_is); (case fb=>k_is); (case fc=>exact fun _ _=>BindsTo.of_eq rfl); (case fe=>rfl)
 conv=>whnf
 refine ⟨⟨rfl,rfl⟩,?_⟩
 conv=>whnf
 refine CallP.sub (Sub.ix [1,1,1,0] 0 _) (br_done [.i 0,.i 1,.i 0,.i 1,.l ns,.i 0,.i 1,.i 0,.i 1] hz ?_)
 conv=>whnf
 refine ⟨fun h=>?_,fun h=>?_⟩
 ·have h:ns.length≤at_:=Int.ofNat_le.mp (of_decide_eq_true h)
  conv=>whnf
  refine ⟨⟨rfl,rfl⟩,?_⟩
  conv=>whnf
  exact br_fail ⟨hz' h,hX _ (Sub.ix [1,0] 0 _)⟩
 ·have h:at_<ns.length:=Nat.lt_of_not_le fun q=>h (decide_eq_true (Int.ofNat_le.mpr q))
  conv=>whnf
  refine ⟨⟨rfl,rfl⟩,?_⟩
  conv=>whnf
  refine ⟨⟨rfl,rfl⟩,?_⟩
  conv=>whnf
  refine ⟨⟨(at_mem (j:=2) rfl),idx1 h hz⟩,?_⟩
  conv=>whnf
  refine ⟨fun q=>absurd q (Int.not_lt.mpr (hb at_).1),fun _=>?_⟩
  conv=>whnf
  refine ⟨fun q=>absurd q (Int.not_lt.mpr (Int.le_of_lt_add_one (hb at_).2)),fun _=>?_⟩
  conv=>whnf
  refine ⟨⟨rfl,rfl⟩,?_⟩
  conv=>whnf
  refine ⟨⟨rfl,rfl⟩,?_⟩
  conv=>whnf
  exact hN _ _ hs _ (hK h) (Sub.ix [3,0,0,0] 0 _)
end
noncomputable def numL:List Int→Int→Int→Option (Int×List Int)
 | [],_,_=>none
 | g::r,tot,w=>if g>127 then numL r (tot+(g-128)*w) (w*128) else if g=0∧w>1 then none else
  some (if (tot+g*w) % 2=1 then -(tot+g*w+1) / 2 else (tot+g*w) / 2,r)
theorem drop_cons {ns:List Int} {a:Nat} (h:a<ns.length):ns.drop a=ns.getD a 0::ns.drop (a+1):=by
 rw [List.drop_eq_getElem_cons h]
 simp [h]
theorem drop_nil {ns:List Int} {a:Nat} (h:ns.length≤a):ns.drop a=[]:=List.drop_eq_nil_of_le h
section
variable {B:Bs} {nm:NM} {n:Nat} {l:Fr} {own:Led} {K:KE} {x dx d:Addr} {ns:List Int} {at_:Nat}
theorem br_number {C:Cx B nm (n+9)} (hs:Hs) (hz:ns.length<1000000) (hb:Bytes ns) (hr:numL (ns.drop at_) 0 1=none→C.rz l∧Sub C.X ((d,ilst ns)::own))
  (hK:∀ v a',numL (ns.drop at_) 0 1=some (v,ns.drop a')→at_<a'→a'≤ns.length→K (.int v) ((x,.inst 168 dx)::(dx,br d a')::(d,ilst ns)::own) hs):CallP C l ((x,.inst 168 dx)::(dx,br d at_)::(d,ilst ns)::own) (.ref 144) [.ref x] K:=by
 refine' fnK (numL (ns.drop at_) 0 1=none) ((d,ilst ns)::own) [.i 1,.i 2] ["self"] ["total","weight","group"] hr ?fa ?fb ?fc rfl ?fe (fun D hz' hX N hN=>?_)
 (case fa=>k_is); (case fb=>k_is); (case fc=>exact fun _ _=>BindsTo.of_eq rfl); (case fe=>rfl)
 conv=>whnf
 refine ⟨⟨rfl,rfl⟩,?_⟩
 conv=>whnf
 refine CallP.sub (Sub.ix [1,1,1,0] 0 _) (br_byte [] hz hb (fun h=>⟨hz' (by rw [drop_nil h]; rfl),hX _ (Sub.ix [1,0] 0 _)⟩) fun hlt=>?_)
 conv=>whnf
 refine StP.while_ (ι:=Nat×Int×Int×Int) (fun k c=>c.1≤ns.length∧at_<c.1∧k=ns.length-c.1∧0≤c.2.2.2∧c.2.2.2<256∧1≤c.2.2.1∧numL (ns.drop at_) 0 1=numL (c.2.2.2::ns.drop c.1) c.2.1 c.2.2.1)
  (fun c=>[("self",.ref x),("total",.int c.2.1),("weight",.int c.2.2.1),("group",.int c.2.2.2)]) (fun c=>(x,.inst 168 dx)::(dx,br d c.1)::(d,ilst ns)::(C.env.locals,.ns l)::own) (ns.length-(at_+1)) (at_+1,0,1,ns.getD at_ 0) (fun c=>[.i 0,.i 1])
  ⟨hlt,Nat.lt_succ_self _,rfl,(hb at_).1,(hb at_).2,Int.le_refl 1,congrArg (fun z=>numL z 0 1) (drop_cons hlt)⟩ ?_
 intro k c hI N2 hN2
 conv=>whnf
 refine ⟨fun hc=>?_,fun hc=>?_⟩
 ·conv=>whnf
  refine ⟨IntMulOk.of_left (intBits_le_64 (by have:=hI.2.2.2.2.1; lia) (by have:=hI.2.2.2.2.1; lia)),?_⟩
  conv=>whnf
  refine ⟨IntMulOk.of_right (intBits_le_64 (by decide) (by decide)),?_⟩
  conv=>whnf
  refine ⟨⟨rfl,rfl⟩,?_⟩
  have hv:numL (ns.drop at_) 0 1=numL (ns.drop c.1) (c.2.1+(c.2.2.2-128)*c.2.2.1) (c.2.2.1*128):=hI.2.2.2.2.2.2.trans (if_pos hc)
  conv=>whnf
  refine br_byte [] hz hb (fun h=>⟨hz' (by rw [hv,drop_nil h]; rfl),hX _ (Sub.ix [1,0] 0 _)⟩) fun hlt=>?_
  conv=>whnf
  exact hN2 (ns.length-(c.1+1)) (c.1+1,_,_,ns.getD c.1 0) _ (hI.2.2.1 ▸ Nat.sub_lt_sub_left hlt (Nat.lt_succ_self _))
   ⟨hlt,Nat.lt_succ_of_lt hI.2.1,rfl,(hb c.1).1,(hb c.1).2,show 1≤c.2.2.1*128 by have:=hI.2.2.2.2.2.1; exact far [] [_] (.d (.z 1) (.u Y0 128)) [.d (.z 1) Y0] [1,128] (fm this fz) rfl,hv.trans (by rw [drop_cons hlt])⟩ (Sub.refl _)
 ·have hv:=hI.2.2.2.2.2.2.trans (if_neg hc)
  have hg:IntMulOk c.2.2.2 c.2.2.1:=IntMulOk.of_left (intBits_le_64 (by have:=hI.2.2.2.1; lia) (by have:=hI.2.2.2.2.1; lia))
  conv=>whnf
  refine IfP.andE (c2:=c.2.2.1>1) (fun hn=>?_) (fun h1 ht=>?_)
  ·have hK:=hK _ c.1 (hv.trans (if_neg hn)) hI.2.1 hI.1
   conv=>whnf
   refine ⟨hg,?_⟩
   conv=>whnf
   refine ⟨by decide,?_⟩
   conv=>whnf
   refine ⟨fun hp=>?_,fun hp=>?_⟩
   ·conv=>whnf
    refine ⟨⟨by decide,PyProof.noPylong_small (by decide)⟩,?_⟩
    rw [if_pos hp] at hK
    conv=>whnf
    exact hN _ _ hs _ hK (Sub.ix [3,0,0,0] 0 _)
   ·conv=>whnf
    refine ⟨⟨by decide,PyProof.noPylong_small (by decide)⟩,?_⟩
    rw [if_neg hp] at hK
    conv=>whnf
    exact hN _ _ hs _ hK (Sub.ix [3,0,0,0] 0 _)
  ·conv=>whnf
   refine ⟨fun h2=>?_,fun h2=>?_⟩
   rotate_left
   ·have h:=ht h2
    conv at h=>whnf
    conv=>whnf
    exact h
   conv=>whnf
   refine ⟨⟨rfl,rfl⟩,?_⟩
   conv=>whnf
   exact br_fail ⟨hz' (hv.trans (if_pos ⟨h1,h2⟩)),hX _ (Sub.ix [1,0] 0 _)⟩
theorem br_count {C:Cx B nm (n+11)} (hs:Hs) (hz:ns.length<1000000) (hb:Bytes ns) (hr:(∀ v a',numL (ns.drop at_) 0 1=some (v,ns.drop a')→a'≤ns.length→¬ (0≤v∧v≤(ns.length:Int)-a'))→C.rz l∧Sub C.X ((d,ilst ns)::own))
  (hK:∀ v a',numL (ns.drop at_) 0 1=some (v,ns.drop a')→at_<a'→a'≤ns.length→0≤v→v≤(ns.length:Int)-a'→K (.int v) ((x,.inst 168 dx)::(dx,br d a')::(d,ilst ns)::own) hs):
  CallP C l ((x,.inst 168 dx)::(dx,br d at_)::(d,ilst ns)::own) (.ref 151) [.ref x] K:=by
 refine' fnK (∀ v a',numL (ns.drop at_) 0 1=some (v,ns.drop a')→a'≤ns.length→¬ (0≤v∧v≤(ns.length:Int)-a')) ((d,ilst ns)::own) [.i 1,.i 2] ["self"] ["n"] hr ?fa ?fb ?fc rfl ?fe (fun D hz' hX N hN=>?_)
 (case fa=>k_is); (case fb=>k_is); (case fc=>exact fun _ _=>BindsTo.of_eq rfl); (case fe=>rfl)
 conv=>whnf
 refine ⟨⟨rfl,rfl⟩,?_⟩
 conv=>whnf
 refine CallP.sub (Sub.ix [1,1,1,0] 0 _) (br_number [.i 0,.i 1,.l ns,.i 0,.i 1,.i 0,.i 1] hz hb (fun h=>⟨hz' (fun v a q=>by rw [h] at q; cases q),hX _ (Sub.ix [1,0] 0 _)⟩) fun v a h0 h2' h3=>?_)
 have hf:¬(0≤v∧v≤(ns.length:Int)-a)→∀ {l0:Fr},D.rz l0:=fun h {_}=>hz' fun v' a' q1 q2=>by
  rw [h0] at q1
  have e:=Option.some.inj q1
  have e3:a=a':=by
   have:=congrArg (fun z=>z.2.length) e
   simp only [List.length_drop] at this
   lia
  have e4:v=v':=congrArg (·.1) e
  rw [← e3,← e4]
  exact h
 conv=>whnf
 refine IfP.orE (c2:=v>(ns.length:Int)-a) (fun h=>?_) (fun h1 ht=>?_)
 ·conv=>whnf
  refine ⟨⟨rfl,rfl⟩,?_⟩
  conv=>whnf
  exact br_fail ⟨hf fun h'=>h.elim (fun q=>absurd h'.1 (Int.not_le.mpr q)) (fun q=>absurd h'.2 (Int.not_le.mpr q)),hX _ (Sub.ix [1,0] 0 _)⟩
 ·conv=>whnf
  refine ⟨⟨rfl,rfl⟩,?_⟩
  conv=>whnf
  refine ⟨⟨(at_mem (j:=2) rfl),hz⟩,?_⟩
  conv=>whnf
  refine ⟨⟨rfl,rfl⟩,?_⟩
  conv=>whnf
  refine ⟨fun h2=>?_,fun h2=>?_⟩
  ·have h:=ht h2
   conv at h=>whnf
   conv=>whnf
   exact h
  ·conv=>whnf
   exact hN _ _ hs _ (hK v a h0 h2' h3 (Int.not_lt.mp h1) (Int.not_lt.mp h2)) (Sub.ix [3,0,0,0] 0 _)
end
end
section
section
variable {B:Bs} {nm:NM} {n:Nat} {l:Fr} {led own:Led} {K:KE} {x dx d:Addr} {ns:List Int}
theorem key_at_spec {C:Cx B nm (n+1)} {p:Nat} (hs:Hs) (hd:(d,ilst ns)∈led) (h1:p+2<ns.length) (hz:ns.length<1000000) (hb:Bytes ns)
  (hK:K (.int (ns.getD p 0*65536+ns.getD (p+1) 0*256+ns.getD (p+2) 0)) led hs):CallP C l led (.ref 331) [.ref d,.int p] K:=by
 have hm:∀ k,IntMulOk (ns.getD k 0) 256∧IntMulOk (ns.getD k 0) 65536:=fun k=>⟨IntMulOk.of_left (intBits_le_64 (by have:=(hb k).1; lia) (by have:=(hb k).2; lia)),IntMulOk.of_left (intBits_le_64 (by have:=(hb k).1; lia) (by have:=(hb k).2; lia))⟩
 refine' fnK False [] [.l ns,.l ns,.l ns] ["data","at"] [] (fun h=>h.elim) ?fa ?fb ?fc rfl ?fe (fun D _ _ N hN=>?_)
 (case fa=>k_is); (case fb=>k_is); (case fc=>exact fun _ _ _=>BindsTo.of_eq rfl); (case fe=>rfl)
 conv=>whnf
 refine ⟨⟨.tail _ hd,idx1 (Nat.lt_of_le_of_lt (Nat.le_add_right p 2) h1) hz⟩,?_⟩
 conv=>whnf
 refine ⟨(hm p).2,?_⟩
 conv=>whnf
 refine ⟨⟨.tail _ hd,idx2 (b:=1) (Nat.lt_of_succ_lt h1) hz⟩,?_⟩
 conv=>whnf
 refine ⟨(hm (p+1)).1,?_⟩
 conv=>whnf
 refine ⟨⟨.tail _ hd,idx2 (b:=2) h1 hz⟩,?_⟩
 conv=>whnf
 exact hN _ _ hs _ hK (Sub.refl _)
end
noncomputable def bitAt (ns:List Int) (pos:Nat):Int:=ns.getD (pos / 8) 0 / 2 ^ (7-pos % 8) % 2
noncomputable abbrev rdr (d:Addr) (pos:Nat):OS:=.attrs [("data",.ref d),("at",.int (pos / 8:Nat)),("place",.int (pos % 8:Nat))]
theorem rdr_end (d:Addr) {pos:Nat} (h:((pos % 8:Nat):Int)+1=8):rdr d (pos+1)=.attrs [("data",.ref d),("at",.int (((pos / 8:Nat):Int)+1)),("place",.int 0)]:=by
 have a1:(pos+1) / 8=pos / 8+1:=by exact Nat.le_antisymm (far [_,_,_] [] (.a Z0 (.p Z1 (.n 1))) [.a (.r Z0 8) (.p Z2 (.n 1)),.b Z2 (.p (.r Z1 8) (.n 8))] [8,1,1] (fm (nd1 _ _) (fm (nd2 _ _ rfl) fz)) rfl) (far [_,_,_,_] [] (.a (.p Z0 (.n 1)) Z1) [.f (.q X2 (.z 1)) (.z 8),.c (.p (.m 8 Z0) Z2) Z3,.b (.p Z3 (.n 1)) (.p (.r Z1 8) (.n 8))] [8,-1,1,1] (fm h (fm (nm2 _ _) (fm (nd2 _ _ rfl) fz))) rfl)
 have a2:(pos+1) % 8=0:=by exact Nat.le_antisymm (far [_,_,_,_] [] (.a Z0 (.n 0)) [.c Z1 (.p Z2 (.n 1)),.c (.p (.m 8 Z1) Z0) (.p Z3 (.n 1)),.b Z3 (.p (.r Z2 8) (.n 8))] [1,-8,1,1] (fm a1 (fm (nm2 _ _) (fm (nd2 _ _ rfl) fz))) rfl) (far [_] [] (.a (.n 0) Z0) [] [1] fz rfl)
 unfold rdr
 rw [a1,a2]; rfl
theorem rdr_mid (d:Addr) {pos:Nat} (h:¬((pos % 8:Nat):Int)+1=8):rdr d (pos+1)=.attrs [("data",.ref d),("at",.int ((pos / 8:Nat):Int)),("place",.int (((pos % 8:Nat):Int)+1))]:=by
 have a1:(pos+1) / 8=pos / 8:=by lia
 have a2:(pos+1) % 8=pos % 8+1:=by lia
 unfold rdr
 rw [a1,a2]; rfl
section
variable {B:Bs} {nm:NM} {n:Nat} {l:Fr} {own:Led} {K:KE} {x dx d:Addr} {ns:List Int} {pos:Nat}
theorem bit_spec {C:Cx B nm (n+6)} (hs:Hs) (hz:ns.length<1000000) (hb:Bytes ns) (hr:8*ns.length≤pos→C.rz l∧Sub C.X ((d,ilst ns)::own))
  (hK:pos<8*ns.length→K (.int (bitAt ns pos)) ((x,.inst 245 dx)::(dx,rdr d (pos+1))::(d,ilst ns)::own) hs):CallP C l ((x,.inst 245 dx)::(dx,rdr d pos)::(d,ilst ns)::own) (.ref 228) [.ref x] K:=by
 refine' fnK (8*ns.length≤pos) ((d,ilst ns)::own) [.i 1,.i 2,.i 1,.i 2,.l ns,.i 1,.i 2,.i 1,.i 2,.l ns,.i 1,.i 2,.v (7-pos % 8:Nat),.i 1,.i 2,.i 1,.i 2,.i 1,.i 2,.i 1,.i 2,.i 1,.i 2,.i 1,.i 2] ["self"] ["value","found"] hr ?fa ?fb ?fc rfl ?fe (fun D hz' hX N hN=>?_)
 (case fa=>k_is); (case fb=>k_is); (case fc=>exact fun _ _=>BindsTo.of_eq rfl); (case fe=>rfl)
 conv=>whnf
 refine ⟨⟨rfl,rfl⟩,?_⟩
 conv=>whnf
 refine ⟨⟨rfl,rfl⟩,?_⟩
 conv=>whnf
 refine ⟨⟨(at_mem (j:=3) rfl),hz⟩,?_⟩
 conv=>whnf
 refine ⟨fun h=>?_,fun h=>?_⟩
 ·conv=>whnf
  refine StP.raise [.i 1,.i 2] (hz' (by have h:((pos / 8:Nat):Int)≥ns.length:=h; exact far [_,_,_] [] (.a (.m 8 Z0) Z1) [.d X0 X2,.a (.r Z2 8) Z1] [1,8,1] (fm h (fm (nd1 _ _) fz)) rfl)) rfl rfl ?_
  conv=>whnf
  refine ⟨⟨rfl,rfl⟩,?_⟩
  conv=>whnf
  exact hX _ (Sub.ix [0] 2 _)
 ·have h:pos / 8<ns.length:=Int.ofNat_lt.mp (Int.not_le.mp h)
  have hK:=hK (by exact far [_,_,_] [] (.b Z0 (.m 8 Z1)) [.b Z2 Z1,.b Z0 (.p (.r Z2 8) (.n 8))] [1,8,1] (fm h (fm (nd2 _ _ rfl) fz)) rfl)
  conv=>whnf
  refine ⟨⟨rfl,rfl⟩,?_⟩
  conv=>whnf
  refine ⟨⟨rfl,rfl⟩,?_⟩
  conv=>whnf
  refine ⟨⟨(at_mem (j:=3) rfl),idx1 h hz⟩,?_⟩
  conv=>whnf
  refine ⟨fun q=>absurd q (Int.not_lt.mpr (hb _).1),fun _=>?_⟩
  conv=>whnf
  refine ⟨fun q=>absurd q (Int.not_lt.mpr (Int.le_of_lt_add_one (hb _).2)),fun _=>?_⟩
  conv=>whnf
  refine ⟨⟨rfl,rfl⟩,?_⟩
  conv=>whnf
  refine ⟨by exact Int.le_antisymm (far [_,_] [] (.d (.s (.z 7) X0) X1) [.a (.n 7) (.p Z1 Z0)] [1,1] (fm (ns1 _ _) fz) rfl) (far [_,_] [] (.d X0 (.s (.z 7) X1)) [.c (.p Z0 Z1) (.n 7)] [1,1] (fm (ns2 (far [_] [] (.a Z0 (.n 7)) [.b Z0 (.n 8)] [1,1] (fm (nm1 _ _ rfl) fz) rfl)) fz) rfl),?_⟩
  conv=>whnf
  refine ⟨Int.natCast_nonneg _,?_⟩
  conv=>whnf
  refine ⟨by decide,?_⟩
  conv=>whnf
  refine ⟨⟨rfl,rfl⟩,?_⟩
  conv=>whnf
  refine ⟨⟨rfl,rfl⟩,?_⟩
  conv=>whnf
  refine ⟨⟨rfl,rfl⟩,?_⟩
  conv=>whnf
  refine ⟨fun h7=>?_,fun h7=>?_⟩
  ·rw [rdr_end d h7] at hK
   conv=>whnf
   refine ⟨⟨rfl,rfl⟩,?_⟩
   conv=>whnf
   refine ⟨⟨rfl,rfl⟩,?_⟩
   conv=>whnf
   refine ⟨⟨rfl,rfl⟩,?_⟩
   conv=>whnf
   exact hN _ _ hs _ hK (Sub.refl _)
  ·rw [rdr_mid d h7] at hK
   conv=>whnf
   exact hN _ _ hs _ hK (Sub.refl _)
end
noncomputable def bitsL (ns:List Int):List Int:=(List.range (8*ns.length)).map (bitAt ns)
theorem bitsL_length (ns:List Int):(bitsL ns).length=8*ns.length:=by simp [bitsL]
theorem bitsL_cons {ns:List Int} {p:Nat} (h:p<8*ns.length):(bitsL ns).drop p=bitAt ns p::(bitsL ns).drop (p+1):=by
 rw [List.drop_eq_getElem_cons (by rw [bitsL_length]; exact h)]
 congr 1
 simp [bitsL]
theorem bitsL_nil {ns:List Int} {p:Nat} (h:8*ns.length≤p):(bitsL ns).drop p=[]:=List.drop_eq_nil_of_le (by rw [bitsL_length]; exact h)
theorem bitAt_01 (ns:List Int) (p:Nat):bitAt ns p=0∨bitAt ns p=1:=by unfold bitAt; lia
noncomputable def rdB:List Int→Nat→Int→Option (Int×List Int)
 | l,0,v=>some (v,l)
 | [],_+1,_=>none
 | b::r,w+1,v=>rdB r w (v*2+b)
theorem rdB_zero (l:List Int) (v:Int):rdB l 0 v=some (v,l):=by cases l <;> rfl
noncomputable def finB (r:List Int):Prop:=r.length<8∧∀ b∈r,b=0
theorem rdr_at (d:Addr) (a:Nat):rdr d (8*a)=.attrs [("data",.ref d),("at",.int (a:Nat)),("place",.int 0)]:=by
 have a1:8*a / 8=a:=by exact Nat.le_antisymm (far [_,_] [] (.a Z0 Z1) [.a (.r Z0 8) (.m 8 Z1)] [8,1] (fm (nd1 _ _) fz) rfl) (far [_,_] [] (.a Z0 Z1) [.b (.m 8 Z0) (.p (.r Z1 8) (.n 8))] [8,1] (fm (nd2 _ _ rfl) fz) rfl)
 have a2:8*a % 8=0:=by exact Nat.le_antisymm (far [_,_,_] [] (.a Z0 (.n 0)) [.c Z1 Z2,.c (.p (.m 8 Z1) Z0) (.m 8 Z2)] [1,-8,1] (fm a1 (fm (nm2 _ _) fz)) rfl) (far [_] [] (.a (.n 0) Z0) [] [1] fz rfl)
 simp [rdr,a1,a2]
section
variable {B:Bs} {nm:NM} {n:Nat} {l:Fr} {own:Led} {K:KE} {x dx d:Addr} {ns:List Int} {pos:Nat}
theorem bitr_new {C:Cx B nm (n+3)} {a:Nat} (hs:Hs) (hK:∀ x dx,K (.ref x) ((x,.inst 245 dx)::(dx,rdr d (8*a))::own) hs):CallP C l own (.ref 245) [.ref d,.int a] K:=by
 rw [rdr_at] at hK
 refine CallP.make (f:=221) (by k_is) (by k_is) (by k_is) fun x dx D _ _=>?_
 refine' fnF False [] [.i 1,.i 2,.i 1,.i 2,.i 1,.i 2] ["self","data","at"] [] (fun h=>h.elim) ?fa ?fb ?fc rfl ?fe (fun E _ _ N hN=>?_)
 (case fa=>k_is); (case fb=>k_is); (case fc=>exact fun _ _ _ _=>BindsTo.of_eq rfl); (case fe=>rfl)
 conv=>whnf
 refine ⟨⟨rfl,rfl⟩,?_⟩
 conv=>whnf
 refine ⟨⟨rfl,rfl⟩,?_⟩
 conv=>whnf
 refine ⟨⟨rfl,rfl⟩,?_⟩
 conv=>whnf
 exact hN .none _ hs _ (hK x dx) (Sub.refl _)
theorem bitr_bits {C:Cx B nm (n+8)} {w:Nat} (hs:Hs) (hz:ns.length<1000000) (hb:Bytes ns) (hw:w<100000) (hp:pos≤8*ns.length) (hr:rdB ((bitsL ns).drop pos) w 0=none→C.rz l∧Sub C.X ((d,ilst ns)::own))
  (hK:∀ v,rdB ((bitsL ns).drop pos) w 0=some (v,(bitsL ns).drop (pos+w))→pos+w≤8*ns.length→K (.int v) ((x,.inst 245 dx)::(dx,rdr d (pos+w))::(d,ilst ns)::own) hs):
  CallP C l ((x,.inst 245 dx)::(dx,rdr d pos)::(d,ilst ns)::own) (.ref 235) [.ref x,.int w] K:=by
 refine' fnK (rdB ((bitsL ns).drop pos) w 0=none) ((d,ilst ns)::own) [] ["self","width"] ["value","turn"] hr ?fa ?fb ?fc rfl ?fe (fun D hz' hX N hN=>?_)
 (case fa=>k_is); (case fb=>k_is); (case fc=>exact fun _ _ _=>BindsTo.of_eq rfl); (case fe=>rfl)
 conv=>whnf
 refine StP.for_ [] (fun _=>rfl) ?_
 conv=>whnf
 refine CallP.sub (Sub.ix [1,1,1,0] 0 _) (CallP.range1 [] fun r=>?_)
 refine FoP.rng (ι:=Nat×Int×VS) w (fun i=>(i:Nat)) (fun i c=>c.1=pos+i∧c.1≤8*ns.length∧rdB ((bitsL ns).drop pos) w 0=rdB ((bitsL ns).drop c.1) (w-i) c.2.1) (fun c=>[("self",.ref x),("width",.int w),("value",.int c.2.1),("turn",c.2.2)])
  (fun c=>(x,.inst 245 dx)::(dx,rdr d c.1)::(d,ilst ns)::(C.env.locals,.ns l)::own) (pos,0,.any) (fun _ _=>[.i 1,.i 2]) (fun _=>[]) (by lia) (by rfl) (fun i=>Int.zero_add _) ⟨rfl,hp,rfl⟩ (fun i c hi hI ia N2 hN2=>?_) (fun c hI=>?_)
 ·have e:w-i=(w-(i+1))+1:=by clear hI; exact Nat.le_antisymm (far [_,_,_,_] [] (.a Z0 (.p Z1 (.n 1))) [.a Z2 (.p Z1 (.p Z3 (.n 1))),.c (.p Z0 Z3) Z2] [1,1,1] (fm (ns1 _ _) (fm (ns2 (far [_,_] [] (.a Z0 Z1) [.b Z0 Z1] [1,1] (fm hi fz) rfl)) fz)) rfl) (far [_,_,_,_] [] (.a (.p Z0 (.n 1)) Z1) [.a Z2 (.p Z1 Z3),.c (.p Z0 (.p Z3 (.n 1))) Z2] [1,1,1] (fm (ns1 _ _) (fm (ns2 (far [_,_] [] (.a (.p Z0 (.n 1)) Z1) [.b Z0 Z1] [1,1] (fm hi fz) rfl)) fz)) rfl)
  have hv:=hI.2.2
  rw [e] at hv
  conv=>whnf
  refine ⟨IntMulOk.of_right (intBits_le_64 (by decide) (by decide)),?_⟩
  conv=>whnf
  refine ⟨⟨rfl,rfl⟩,?_⟩
  conv=>whnf
  refine CallP.sub (Sub.ix [1,1,1,0] 0 _) (bit_spec [] hz hb (fun h=>⟨hz' (by rw [hv,bitsL_nil h]; rfl),hX _ (Sub.ix [2,0] 1 _)⟩) fun hlt=>?_)
  conv=>whnf
  exact hN2 (c.1+1,c.2.1*2+bitAt ns c.1,.int i) _ ⟨congrArg (·+1) hI.1,hlt,hv.trans (by rw [bitsL_cons hlt]; rfl)⟩ (Sub.ix [3,0,0,0] 0 _)
 ·have hv:=hI.2.2
  rw [Nat.sub_self,rdB_zero,hI.1] at hv
  have hK:=hK _ hv (hI.1 ▸ hI.2.1)
  rw [← hI.1] at hK
  conv=>whnf
  exact hN _ _ hs _ hK (Sub.ix [3,0,0,0] 0 _)
theorem bitsL_get {pos p:Nat} (h1:pos≤p) (h2:p<8*ns.length):bitAt ns p∈(bitsL ns).drop pos:=by
 refine List.mem_of_getElem? (i:=p-pos) ?_
 rw [List.getElem?_drop,Nat.add_sub_cancel' h1]
 unfold bitsL
 rw [List.getElem?_map,List.getElem?_range h2]; rfl
theorem finB_of {pos:Nat} (h1:8*ns.length-pos<8) (h2:∀ i,pos≤i→i<8*ns.length→bitAt ns i=0):finB ((bitsL ns).drop pos):=by
 refine ⟨by rw [List.length_drop,bitsL_length]; exact h1,fun b hb=>?_⟩
 rw [List.mem_iff_getElem] at hb
 obtain ⟨i,hi,rfl⟩:=hb
 rw [List.length_drop,bitsL_length] at hi
 rw [List.getElem_drop]
 simp only [bitsL,List.getElem_map,List.getElem_range]
 exact h2 _ (Nat.le_add_right _ _) (Nat.add_lt_of_lt_sub' hi)
theorem bitr_finish {C:Cx B nm (n+8)} (hs:Hs) (hz:ns.length<1000000) (hb:Bytes ns) (hp:pos≤8*ns.length) (hr:¬ finB ((bitsL ns).drop pos)→C.rz l∧Sub C.X ((d,ilst ns)::own))
  (hK:finB ((bitsL ns).drop pos)→K .none ((d,ilst ns)::own) hs):CallP C l ((x,.inst 245 dx)::(dx,rdr d pos)::(d,ilst ns)::own) (.ref 242) [.ref x] K:=by
 refine' fnK (¬ finB ((bitsL ns).drop pos)) ((d,ilst ns)::own) [] ["self"] [] hr ?fa ?fb ?fc rfl ?fe (fun D hz' hX N hN=>?_)
 (case fa=>k_is); (case fb=>k_is); (case fc=>exact fun _ _=>BindsTo.of_eq rfl); (case fe=>rfl)
 conv=>whnf
 refine StP.while_ (ι:=Nat) (fun k p=>k=8*ns.length-p∧pos≤p∧p≤8*ns.length∧(pos=p∨(p-pos<8∧(p+7) / 8=(pos+7) / 8∧∀ i,pos≤i→i<p→bitAt ns i=0))) (fun _=>[("self",.ref x)])
  (fun p=>(C.env.locals,.ns l)::(x,.inst 245 dx)::(dx,rdr d p)::(d,ilst ns)::own) _ pos (fun _=>[.i 1,.i 2,.i 1,.i 2,.i 1,.i 2,.l ns]) ⟨rfl,Nat.le_refl _,hp,.inl rfl⟩ (fun k p hI N2 hN2=>?_)
 conv=>whnf
 refine ⟨⟨rfl,rfl⟩,?_⟩
 conv=>whnf
 refine ⟨fun hc=>?_,fun hc=>?_⟩
 ·conv=>whnf
  refine ⟨⟨rfl,rfl⟩,?_⟩
  conv=>whnf
  refine ⟨⟨rfl,rfl⟩,?_⟩
  conv=>whnf
  refine ⟨⟨(at_mem (j:=3) rfl),hz⟩,?_⟩
  conv=>whnf
  refine ⟨fun hv=>?_,fun hv=>?_⟩
  ·have hK:=hK (finB_of (by have h1:=hI.2.1; have h2:=hI.2.2.2; omega) fun i h1 h2=>hI.2.2.2.elim (fun e=>absurd h1 (by omega)) fun h=>h.2.2 i h1 (by exact far [_,_,_,_] [] (.b Z0 Z1) [.f X2 X3,.b Z0 (.m 8 Z3),.a (.r Z2 8) Z1] [1,-8,1,1] (fm hv (fm h2 (fm (nd1 _ _) fz))) rfl))
   conv=>whnf
   exact hN _ _ hs _ hK (Sub.ix [0] 2 _)
  ·conv=>whnf
   refine StP.raise [.i 1,.i 2] (hz' fun hf=>hv (by have:=hf.1; rw [List.length_drop,bitsL_length] at this; have h1:=hI.2.1; have h2:=hI.2.2; exact Int.le_antisymm (far [_,_,_] [] (.d X0 X1) [.a Z2 (.m 8 Z1),.a (.r Z0 8) Z2] [8,1,1] (fm h2.1 (fm (nd1 _ _) fz)) rfl) (far [_,_,_,_,_,_] [] (.d X0 X1) [.f X2 (.z 0),.a Z3 Z4,.b Z5 (.n 8),.c (.p (.m 8 Z1) Z2) Z4,.a (.m 8 Z0) (.p Z5 Z3)] [8,1,1,1,-1,1] (fm hc (fm h1 (fm this (fm (nm2 _ _) (fm (ns1 _ _) fz))))) rfl))) rfl rfl ?_
   conv=>whnf
   refine ⟨⟨rfl,rfl⟩,?_⟩
   conv=>whnf
   exact hX _ (Sub.ix [0] 2 _)
 ·conv=>whnf
  refine ⟨⟨rfl,rfl⟩,?_⟩
  conv=>whnf
  refine CallP.sub (Sub.ix [1,1,1,0] 0 _) (bit_spec [] hz hb (fun h=>absurd h (by have:=hI.2.2.1; lia)) fun hlt=>?_)
  conv=>whnf
  refine ⟨fun hv=>?_,fun hv=>?_⟩
  ·conv=>whnf
   refine hN2 (8*ns.length-(p+1)) (p+1) _ (by rw [hI.1]; exact far [_,_,_,_] [] (.b Z0 Z1) [.a (.m 8 Z2) (.p Z1 Z3),.c (.p Z0 (.p Z3 (.n 1))) (.m 8 Z2)] [1,1,1] (fm (ns1 _ _) (fm (ns2 (far [_,_] [] (.a (.p Z0 (.n 1)) (.m 8 Z1)) [.b Z0 (.m 8 Z1)] [1,1] (fm hlt fz) rfl)) fz)) rfl) ⟨rfl,Nat.le_succ_of_le hI.2.1,hlt,.inr ⟨by have h1:=hI.2.1; have h3:=hI.2.2.2; omega,by have h3:=hI.2.2.2; lia,fun i h1 h2=>?_⟩⟩ (Sub.ix [3,0,0,0] 0 _)
   rcases Nat.lt_succ_iff_lt_or_eq.mp h2 with h2 | rfl
   ·exact hI.2.2.2.elim (fun e=>absurd h1 (by lia)) fun h=>h.2.2 i h1 h2
   ·exact hv
  ·conv=>whnf
   refine StP.raise [.i 0,.i 1] (hz' fun hf=>hv (hf.2 _ (bitsL_get hI.2.1 hlt))) rfl rfl ?_
   conv=>whnf
   refine ⟨⟨rfl,rfl⟩,?_⟩
   conv=>whnf
   exact hX _ (Sub.ix [3,2] 2 _)
end
end
section
noncomputable def bpush (x:List Int×Int×Int) (b:Int):List Int×Int×Int:=if x.2.2+1=8 then (x.1++[x.2.1*2+b],0,0) else (x.1,x.2.1*2+b,x.2.2+1)
noncomputable def bst (bs:List Int):List Int×Int×Int:=bs.foldl bpush ([],0,0)
noncomputable def toBits (v:Int) (w:Nat):List Int:=(List.range w).map fun i=>v / 2 ^ (w-1-i) % 2
theorem bst_snoc (bs:List Int) (b:Int):bst (bs++[b])=bpush (bst bs) b:=by simp [bst]
theorem bst_len (bs:List Int):(bst bs).1.length≤bs.length:=by
 have:∀ x:List Int×Int×Int,∀ bs:List Int,(bs.foldl bpush x).1.length≤x.1.length+bs.length:=by
  intro x bs
  induction bs generalizing x with
  | nil=>simp
  | cons b bs ih=>
   refine Nat.le_trans (ih _) ?_
   unfold bpush
   split <;> simp <;> lia
 have h:=this ([],0,0) bs
 simp only [List.length_nil,Nat.zero_add] at h
 exact h
theorem bst_cnt (bs:List Int):(bst bs).2.2=((bs.length % 8:Nat):Int):=by
 have:∀ (bs:List Int) (x:List Int×Int×Int) (m:Nat),x.2.2=((m % 8:Nat):Int)→(bs.foldl bpush x).2.2=(((m+bs.length) % 8:Nat):Int):=by
  intro bs
  induction bs with
  | nil=>intro x m hx; exact hx
  | cons b bs ih=>
   intro x m hx
   rw [List.foldl_cons,List.length_cons,ih _ (m+1) ?_]
   ·congr 2; lia
   ·unfold bpush
    split <;> (dsimp only; lia)
 have h:=this bs ([],0,0) 0 rfl
 rw [Nat.zero_add] at h
 exact h
noncomputable def padN (bs:List Int):Nat:=(8-bs.length % 8) % 8
noncomputable def padB (bs:List Int):List Int:=bs++List.replicate (padN bs) 0
noncomputable abbrev bwr (o:Addr) (bs:List Int):OS:=.attrs [("out",.ref o),("held",.int (bst bs).2.1),("count",.int (bst bs).2.2)]
theorem bwr_step {bs:List Int} {v:Int} {w i:Nat} (hi:i<w):bst (bs++(toBits v w).take (i+1))=bpush (bst (bs++(toBits v w).take i)) (v / 2 ^ (w-1-i) % 2):=by
 rw [List.take_add_one,← List.append_assoc,← bst_snoc]
 congr 2
 simp [toBits,hi]
section
variable {B:Bs} {nm:NM} {n:Nat} {l:Fr} {own:Led} {K:KE} {x dx o:Addr} {bs:List Int}
theorem bitw_new {C:Cx B nm (n+3)} (hs:Hs) (hK:∀ x dx o,K (.ref x) ((x,.inst 203 dx)::(dx,bwr o [])::(o,ilst (bst []).1)::own) hs):CallP C l own (.ref 203) [] K:=by
 refine CallP.make (f:=186) (by k_is) (by k_is) (by k_is) fun x dx D _ _=>?_
 refine' fnF False [] [.i 2,.i 3,.i 2,.i 3,.i 2,.i 3] ["self"] [] (fun h=>h.elim) ?fa ?fb ?fc rfl ?fe (fun E _ _ N hN=>?_)
 (case fa=>k_is); (case fb=>k_is); (case fc=>exact fun _ _=>BindsTo.of_eq rfl); (case fe=>rfl)
 conv=>whnf
 intro o
 conv=>whnf
 refine ⟨⟨rfl,rfl⟩,?_⟩
 conv=>whnf
 refine ⟨⟨rfl,rfl⟩,?_⟩
 conv=>whnf
 refine ⟨⟨rfl,rfl⟩,?_⟩
 conv=>whnf
 exact hN .none _ hs _ (hK x dx o) (Sub.ix [1,1,1,0] 0 _)
theorem bitw_bits {C:Cx B nm (n+5)} {v:Int} {w:Nat} (hs:Hs) (hv:0≤v) (hw:w<10000) (hz:bs.length<100000)
  (hK:K .none ((x,.inst 203 dx)::(dx,bwr o (bs++toBits v w))::(o,ilst (bst (bs++toBits v w)).1)::own) hs):CallP C l ((x,.inst 203 dx)::(dx,bwr o bs)::(o,ilst (bst bs).1)::own) (.ref 193) [.ref x,.int v,.int w] K:=by
 refine' fnK False [] [] ["self","value","width"] ["place"] (fun h=>h.elim) ?fa ?fb ?fc rfl ?fe (fun D _ _ N hN=>?_)
 (case fa=>k_is); (case fb=>k_is); (case fc=>exact fun _ _ _ _=>BindsTo.of_eq rfl); (case fe=>rfl)
 conv=>whnf
 refine StP.for_ [] (fun _=>rfl) ?_
 conv=>whnf
 refine CallP.range3 [] (by lia) fun r=>?_
 refine FoP.go (ι:=(List Int×Int×Int)×VS) (itrRange B (w-1) (-1) w) (fun i c=>c.1=bst (bs++(toBits v w).take i)) (fun c=>[("self",.ref x),("value",.int v),("width",.int w),("place",c.2)])
  (fun c=>(C.env.locals,.ns l)::(x,.inst 203 dx)::(dx,.attrs [("out",.ref o),("held",.int c.1.2.1),("count",.int c.1.2.2)])::(o,ilst c.1.1)::own) (bst bs,.any) (fun i=>.int ((w-1-i:Nat):Int))
  (fun i c=>[.i 2,.i 3,.i 2,.i 3,.i 2,.i 3,.i 2,.i 3,.i 2,.i 3,.i 2,.i 3,.u 4 c.1.1,.i 2,.i 3,.i 2,.i 3,.i 2,.i 3]) (fun _=>[]) (fun i h=>⟨congrArg VS.int (by have h:i<w:=h; omega),rfl⟩) (IterP.rangeD (by lia) (by lia)) (by rw [List.take_zero,List.append_nil]) (fun _ _ _=>trivial) (fun _ _ _ _ _ _ _ _ _ q=>wpAny_pure q) (fun i c hi hI ia N2 hN2=>?_) (fun c hI=>?_)
 ·have hi:i<w:=hi
  have hs':=bwr_step (bs:=bs) (v:=v) hi
  rw [← hI] at hs'
  have hlen:c.1.1.length≤1000000:=by
   have h1:=bst_len (bs++(toBits v w).take i)
   rw [← hI,List.length_append,List.length_take] at h1
   exact far [_,_,_,_,_] [] (.a Z0 (.n 1000000)) [.b Z1 (.n 10000),.b Z2 (.n 100000),.b Z3 Z1,.a Z0 (.p Z2 Z4),.a Z4 Z3] [1,1,1,1,1,1] (fm hw (fm hz (fm hi (fm h1 (fm (Nat.min_le_left _ _) fz))))) rfl
  conv=>whnf
  refine ⟨⟨rfl,rfl⟩,?_⟩
  conv=>whnf
  refine ⟨IntMulOk.of_right (intBits_le_64 (by decide) (by decide)),?_⟩
  conv=>whnf
  refine ⟨Int.natCast_nonneg _,?_⟩
  conv=>whnf
  refine ⟨by decide,?_⟩
  conv=>whnf
  refine ⟨⟨rfl,rfl⟩,?_⟩
  conv=>whnf
  refine ⟨⟨rfl,rfl⟩,?_⟩
  conv=>whnf
  refine ⟨⟨rfl,rfl⟩,?_⟩
  conv=>whnf
  refine ⟨⟨rfl,rfl⟩,?_⟩
  conv=>whnf
  refine ⟨fun hc=>?_,fun hc=>?_⟩
  ·conv=>whnf
   refine ⟨⟨rfl,rfl⟩,?_⟩
   conv=>whnf
   refine ⟨(at_mem (j:=4) rfl),?_⟩
   conv=>whnf
   refine ⟨⟨rfl,rfl⟩,?_⟩
   conv=>whnf
   refine ⟨hlen,rfl,?_⟩
   conv=>whnf
   refine ⟨⟨rfl,rfl⟩,?_⟩
   conv=>whnf
   refine ⟨⟨rfl,rfl⟩,?_⟩
   conv=>whnf
   exact hN2 ((_,0,0),.int (w-1-i:Nat)) _ (hs'.trans (if_pos hc)).symm (Sub.refl _)
  ·conv=>whnf
   exact hN2 ((c.1.1,_,_),.int (w-1-i:Nat)) _ (hs'.trans (if_neg hc)).symm (Sub.refl _)
 ·rw [List.take_of_length_le (by simp [toBits]; exact Nat.le_refl _)] at hI
  unfold bwr at hK
  rw [← hI] at hK
  conv=>whnf
  exact hN .none _ hs _ hK (Sub.refl _)
theorem bitw_finish {C:Cx B nm (n+7)} (hs:Hs) (hz:bs.length<90000) (hK:K (.ref o) ((o,ilst (bst (padB bs)).1)::own) hs):CallP C l ((x,.inst 203 dx)::(dx,bwr o bs)::(o,ilst (bst bs).1)::own) (.ref 200) [.ref x] K:=by
 have hp:padN bs<8∧(bs.length+padN bs) % 8=0:=by unfold padN; omega
 refine' fnK False [] [] ["self"] [] (fun h=>h.elim) ?fa ?fb ?fc rfl ?fe (fun D _ _ N hN=>?_)
 (case fa=>k_is); (case fb=>k_is); (case fc=>exact fun _ _=>BindsTo.of_eq rfl); (case fe=>rfl)
 conv=>whnf
 refine StP.while_ (ι:=List Int) (fun k c=>k≤padN bs∧c=bs++List.replicate (padN bs-k) 0) (fun _=>[("self",.ref x)])
  (fun c=>(C.env.locals,.ns l)::(x,.inst 203 dx)::(dx,bwr o c)::(o,ilst (bst c).1)::own) (padN bs) bs (fun _=>[.i 1,.i 2,.i 1,.i 2]) ⟨Nat.le_refl _,by rw [Nat.sub_self]; exact (List.append_nil bs).symm⟩ (fun k c hI N2 hN2=>?_)
 have hl:c.length=bs.length+(padN bs-k):=by rw [hI.2,List.length_append,List.length_replicate]
 have hcnt:=bst_cnt c
 rw [hl] at hcnt
 conv=>whnf
 refine ⟨⟨rfl,rfl⟩,?_⟩
 conv=>whnf
 refine ⟨fun hc=>?_,fun hc=>?_⟩
 ·have hk:k=0:=by rw [hcnt] at hc; have h1:=hI.1; clear hcnt hl hN2; omega
  have e:c=padB bs:=by rw [hI.2,hk]; rfl
  rw [← e] at hK
  conv=>whnf
  refine ⟨⟨rfl,rfl⟩,?_⟩
  conv=>whnf
  exact hN _ _ hs _ hK (Sub.ix [0,2] 2 _)
 ·have hk:k≠0:=fun q=>hc (by rw [hcnt,q]; exact congrArg Nat.cast hp.2)
  conv=>whnf
  refine ⟨⟨rfl,rfl⟩,?_⟩
  conv=>whnf
  refine CallP.sub (Sub.ix [1,1,1,0] 0 _) (bitw_bits (w:=1) [] (Int.le_refl 0) (by decide) (by rw [hl]; exact far [_,_,_] [] (.b (.p Z0 Z1) (.n 100000)) [.b Z0 (.n 90000),.b Z2 (.n 8),.a Z1 Z2] [1,1,1,1] (fm hz (fm hp.1 (fm (Nat.sub_le _ _) fz))) rfl) ?_)
  conv=>whnf
  refine hN2 (k-1) (c++toBits 0 1) _ (Nat.sub_lt (Nat.pos_of_ne_zero hk) Nat.one_pos) ⟨Nat.le_trans (Nat.sub_le _ _) hI.1,?_⟩ (Sub.ix [3,0,0,0] 0 _)
  have e:padN bs-(k-1)=(padN bs-k)+1:=by have h1:=hI.1; clear hcnt hl hN2 hc; lia
  rw [hI.2,e,List.replicate_succ',List.append_assoc]; rfl
end
end
section
noncomputable def runGo (ns:List Int) (p q:Nat):Nat→Nat→Nat
 | 0,c=>c
 | k+1,c=>if ns.getD (p+c) 0=ns.getD (q+c) 0 then runGo ns p q k (c+1) else c
noncomputable def run (ns:List Int) (p q most:Nat):Nat:=runGo ns p q most 0
theorem runGo_le (ns:List Int) (p q:Nat):∀ k c,c≤runGo ns p q k c∧runGo ns p q k c≤c+k
 | 0,c=>⟨Nat.le_refl _,Nat.le_refl _⟩
 | k+1,c=>by
  unfold runGo
  split
  ·have:=runGo_le ns p q k (c+1); exact ⟨far [_,_] [] (.a Z0 Z1) [.a (.p Z0 (.n 1)) Z1] [1,1] (fm this.1 fz) rfl,far [_,_,_] [] (.a Z0 (.p Z1 (.p Z2 (.n 1)))) [.a Z0 (.p (.p Z1 (.n 1)) Z2)] [1,1] (fm this.2 fz) rfl⟩
  ·lia
noncomputable def bestGo (ns:List Int) (a most:Nat) (w:Int):List Nat→Nat×Nat→Nat×Nat
 | [],b=>b
 | p::ps,b=>if ((a:Int)-p>w∨b.1=most) then b else bestGo ns a most w ps (if run ns a p most>b.1 then (run ns a p most,a-p) else b)
theorem bestGo_cons (ns:List Int) (a most:Nat) (w:Int) (p:Nat) (ps:List Nat) (b:Nat×Nat):bestGo ns a most w (p::ps) b=if ((a:Int)-p>w∨b.1=most) then b else bestGo ns a most w ps (if run ns a p most>b.1 then (run ns a p most,a-p) else b):=rfl
theorem getD_mem {l:List Nat} {i:Nat} (h:i<l.length):l.getD i 0∈l:=by
 rw [List.getD_eq_getElem?_getD,List.getElem?_eq_getElem h]; exact List.getElem_mem _
theorem drop_getD {l:List Nat} {i:Nat} (h:i<l.length):l.drop i=l.getD i 0::l.drop (i+1):=by
 rw [List.drop_eq_getElem_cons h,List.getD_eq_getElem?_getD,List.getElem?_eq_getElem h]; rfl
theorem rev_item {B:Bs} {pl:Addr} {ps:List Nat} {i:Nat} (h:i<ps.reverse.length):(itrRev B pl ((ps.map Int.ofNat).map .int)).item i=VS.int (ps.reverse.getD i 0:Nat):=by
 have hr:ps.reverse.length=ps.length:=List.length_reverse
 show ((((ps.map Int.ofNat).map VS.int))[((ps.map Int.ofNat).map VS.int).length-1-i]?).getD .any=_
 rw [List.getD_eq_getElem?_getD,List.getElem?_reverse (by exact far [_,_,_] [] (.b Z0 Z1) [.b Z0 Z2,.c Z2 Z1] [1,1,1] (fm h (fm hr fz)) rfl)]
 simp only [List.length_map,List.getElem?_map]
 rw [List.getElem?_eq_getElem (by exact far [_,_,_] [] (.b Z0 Z1) [.a Z0 Z2,.c (.p Z2 (.n 1)) Z1] [1,1,1] (fm (Nat.sub_le _ _) (fm (ns2 (far [_,_,_] [] (.a (.n 1) Z0) [.b Z1 Z2,.c Z2 Z0] [1,1,1] (fm h (fm hr fz)) rfl)) fz)) rfl)]; rfl
section
variable {B:Bs} {nm:NM} {n:Nat} {l:Fr} {led:Led} {K:KE} {d:Addr} {ns:List Int}
theorem same_run_spec {C:Cx B nm (n+1)} {p q m:Nat} (hs:Hs) (hd:(d,ilst ns)∈led) (hz:ns.length<1000000) (hp:p+m≤ns.length) (hq:q+m≤ns.length)
  (hK:K (.int (run ns p q m:Nat)) led hs):CallP C l led (.ref 317) [.ref d,.int p,.int q,.int m] K:=by
 refine' fnK False [] [] ["data","place","other","most"] ["count"] (fun h=>h.elim) ?fa ?fb ?fc rfl ?fe (fun D _ _ N hN=>?_)
 (case fa=>k_is); (case fb=>k_is); (case fc=>exact fun _ _ _ _ _=>BindsTo.of_eq rfl); (case fe=>rfl)
 conv=>whnf
 refine StP.while_ (ι:=Nat) (fun k c=>k=m-c∧c≤m∧run ns p q m=runGo ns p q (m-c) c) (fun c=>[("data",.ref d),("place",.int p),("other",.int q),("most",.int m),("count",.int (c:Nat))]) (fun _=>(C.env.locals,.ns l)::led) m 0 (fun _=>[.l ns,.l ns]) ⟨rfl,Nat.zero_le _,rfl⟩ ?_
 intro k c h N2 hN2
 have hr:=h.2.2
 conv=>whnf
 refine ⟨fun hlt=>?_,fun hlt=>?_⟩
 ·have hlt:c<m:=Int.ofNat_lt.mp hlt
  conv=>whnf
  refine ⟨⟨.tail _ hd,idx2 (Nat.lt_of_lt_of_le (Nat.add_lt_add_left hlt p) hp) hz⟩,?_⟩
  conv=>whnf
  refine ⟨⟨.tail _ hd,idx2 (Nat.lt_of_lt_of_le (Nat.add_lt_add_left hlt q) hq) hz⟩,?_⟩
  have ek:m-c=(m-(c+1))+1:=by lia
  rw [ek,runGo] at hr
  conv=>whnf
  refine ⟨fun heq=>?_,fun heq=>?_⟩
  ·conv=>whnf
   exact hN2 (m-(c+1)) (c+1) _ (h.1 ▸ ek ▸ Nat.lt_succ_self _) ⟨rfl,hlt,hr.trans (if_pos heq)⟩ (Sub.refl _)
  ·conv=>whnf
   rw [hr.trans (if_neg heq)] at hK
   exact hN _ _ hs _ hK (Sub.refl _)
 ·conv=>whnf
  rw [Nat.sub_eq_zero_of_le (Int.ofNat_le.mp (Int.not_lt.mp hlt))] at hr
  rw [hr] at hK
  exact hN _ _ hs _ hK (Sub.refl _)
theorem best_copy_spec {C:Cx B nm (n+4)} {a:Nat} {w:Int} {pl:Addr} {ps:List Nat} (hs:Hs) (hd:(d,ilst ns)∈led) (hpl:(pl,ilst (ps.map Int.ofNat))∈led) (hz:ns.length<1000000) (ha:a≤ns.length) (hps:∀ p∈ps,p<a) (hpz:ps.length<1000000)
  (hK:∀ b,K (.ref b) ((b,.tup [.int ((bestGo ns a (min 257 (ns.length-a)) w ps.reverse (0,0)).1:Nat),.int ((bestGo ns a (min 257 (ns.length-a)) w ps.reverse (0,0)).2:Nat)])::led) hs):
  CallP C l led (.ref 324) [.ref d,.int a,.ref pl,.int w] K:=by
 have em:min (257:Int) ((ns.length:Nat)-(a:Nat))=((min 257 (ns.length-a):Nat):Int):=by clear hps hK; lia
 have hmo:a+min 257 (ns.length-a)≤ns.length:=by clear hps hK em; exact far [_,_,_,_] [] (.a (.p Z0 Z1) Z2) [.a Z1 Z3,.c (.p Z3 Z0) Z2] [1,1,1] (fm (Nat.min_le_right _ _) (fm (ns2 (far [_,_] [] (.a Z0 Z1) [.a Z0 Z1] [1,1] (fm ha fz) rfl)) fz)) rfl
 generalize min 257 (ns.length-a)=mo at *
 have hrl:∀ {i},i<((ps.map Int.ofNat).map VS.int).length→i<ps.reverse.length:=fun {i} h=>by simpa using h
 refine' fnK False [] [.l ns,.x,.v mo] ["data","at","places","window"] ["most","best","place","length"] (fun h=>h.elim) ?fa ?fb ?fc rfl ?fe (fun D _ _ N hN=>?_)
 (case fa=>k_is); (case fb=>k_is); (case fc=>exact fun _ _ _ _ _=>BindsTo.of_eq rfl); (case fe=>rfl)
 conv=>whnf
 refine ⟨⟨.tail _ hd,hz⟩,?_⟩
 conv=>whnf
 refine ⟨em,?_⟩
 conv=>whnf
 intro T
 conv=>whnf
 refine StP.for_ [] (fun _=>rfl) ?_
 conv=>whnf
 refine CallP.rev [] (.tail _ (.tail _ hpl)) fun r=>?_
 refine FoP.go (ι:=Addr×(Nat×Nat)×VS×VS) (itrRev B pl ((ps.map Int.ofNat).map .int)) (fun i c=>bestGo ns a mo w ps.reverse (0,0)=bestGo ns a mo w (ps.reverse.drop i) c.2.1)
  (fun c=>[("data",.ref d),("at",.int a),("places",.ref pl),("window",.int w),("most",.int (mo:Nat)),("best",.ref c.1),("place",c.2.2.1),("length",c.2.2.2)]) (fun c=>(c.1,.tup [.int (c.2.1.1:Nat),.int (c.2.1.2:Nat)])::(C.env.locals,.ns l)::led) (T,(0,0),.any,.any)
  (fun i=>.int (ps.reverse.getD i 0:Nat)) (fun _ _=>[.i 1]) (fun _=>[]) (fun i h=>⟨rev_item (hrl h),rfl⟩) IterP.rev rfl (fun i c _=>.tail _ (.tail _ (.tail _ hpl))) (fun _ _ _ _ _ _ _ _ _ q=>wpAny_pure q) (fun i c hi h1 ia N2 hN2=>?_) (fun c h1=>?_)
 ·have hpm:ps.reverse.getD i 0<a:=hps _ (List.mem_reverse.mp (getD_mem (hrl hi)))
  rw [drop_getD (hrl hi),bestGo_cons] at h1
  generalize ps.reverse.getD i 0=p at *
  conv=>whnf
  refine ⟨fun c1=>?_,fun c1=>?_⟩
  ·conv=>whnf
   rw [h1,if_pos (.inl c1)] at hK
   exact hN _ _ hs _ (hK _) (Sub.ix [2,1] 1 _)
  ·conv=>whnf
   refine ⟨rfl,?_⟩
   conv=>whnf
   refine ⟨fun c2=>?_,fun c2=>?_⟩
   ·conv=>whnf
    rw [h1,if_pos (.inr (Int.ofNat.inj c2))] at hK
    exact hN _ _ hs _ (hK _) (Sub.ix [2,1] 1 _)
   ·rw [if_neg (fun h=>h.elim c1 fun h=>c2 (congrArg Nat.cast h))] at h1
    conv=>whnf
    refine same_run_spec [.i 1,.v (a-p:Nat)] (.tail _ (.tail _ (.tail _ hd))) hz hmo (by clear h1 hK hps; exact far [_,_,_,_] [] (.a (.p Z0 Z1) Z2) [.a (.p Z3 Z1) Z2,.b Z0 Z3] [1,1,1] (fm hmo (fm hpm fz)) rfl) ?_
    conv=>whnf
    refine ⟨rfl,?_⟩
    conv=>whnf
    refine ⟨fun c3=>?_,fun c3=>?_⟩
    ·rw [if_pos (Int.ofNat_lt.mp c3)] at h1
     conv=>whnf
     refine ⟨(Int.ofNat_sub (Nat.le_of_lt hpm)).symm,?_⟩
     conv=>whnf
     intro T'
     conv=>whnf
     exact hN2 (T',(_,_),.int (p:Nat),.int (run ns a p mo:Nat)) _ h1 (Sub.ix [1,0] 1 _)
    ·rw [if_neg (fun h=>c3 (Int.ofNat_lt.mpr h))] at h1
     conv=>whnf
     exact hN2 (c.1,c.2.1,.int (p:Nat),.int (run ns a p mo:Nat)) _ h1 (Sub.refl _)
 ·conv=>whnf
  rw [List.drop_eq_nil_of_le (by show _≤((ps.map Int.ofNat).map VS.int).length; simp)] at h1
  rw [h1] at hK
  exact hN _ _ hs _ (hK _) (Sub.ix [1,0] 0 _)
end
end
section
noncomputable def tupOf (f:Nat→Int×Addr) (a:Nat):List VS:=[.int (f a).1,.ref (f a).2]
section
variable {B:Bs} {nm:NM} {n:Nat} {l:Fr} {own:Led} {K:KE} {T:Addr} {as:List Addr}
theorem lightest_spec {C:Cx B nm (n+2)} (hs:Nat→Hs) (h1:0<as.length) (hz:as.length≤1000) (f:Nat→Int×Addr) (hT:∀ k,k<as.length→(as.getD k 0,OS.tup (tupOf f k))∈own)
  (hK:∀ i,i<as.length→K (.ref (as.getD i 0)) ((T,.lst ((as.eraseIdx i).map .ref))::own) (hs i)):CallP C l ((T,.lst (as.map .ref))::own) (.ref 256) [.ref T] K:=by
 refine' fnK False [] [.r as] ["trees"] ["best","place"] (fun h=>h.elim) ?fa ?fb ?fc rfl ?fe (fun D _ _ N hN=>?_)
 (case fa=>k_is); (case fb=>k_is); (case fc=>exact fun _ _=>BindsTo.of_eq rfl); (case fe=>rfl)
 conv=>whnf
 refine StP.for_ [.r as] (fun _=>rfl) ?_
 conv=>whnf
 refine ⟨⟨(at_mem (j:=1) rfl),Nat.lt_of_le_of_lt hz (by decide)⟩,?_⟩
 conv=>whnf
 refine CallP.range2 [] fun r=>?_
 refine FoP.rng (ι:=Nat×VS) (as.length-1) (fun i=>((i+1:Nat):Int)) (fun i c=>c.1<as.length) (fun c=>[("trees",.ref T),("best",.int (c.1:Nat)),("place",c.2)]) (fun _=>(C.env.locals,.ns l)::(T,.lst (as.map .ref))::own) (0,.any)
  (fun i c=>[.r as,.t (tupOf f (i+1)),.r as,.t (tupOf f c.1)]) (fun _=>[.m]) (by lia) (by exact Nat.le_antisymm (far [_,_,_] [] (.a Z0 Z1) [.a Z2 (.p Z1 (.n 1)),.f X0 (.s X2 (.z 1))] [1,1,1] (fm (ns1 _ _) (fm (it2 (far [_] [] (.d (.z 0) (.s X0 (.z 1))) [.b (.n 0) Z0] [1,1] (fm h1 fz) rfl)) fz)) rfl) (far [_,_,_] [] (.a Z0 Z1) [.d (.s X2 (.z 1)) X1,.c (.p Z0 (.n 1)) Z2] [1,1,1] (fm (it1 _) (fm (ns2 (far [_] [] (.a (.n 1) Z0) [.b (.n 0) Z0] [1,1] (fm h1 fz) rfl)) fz)) rfl)) (fun i=>Int.add_comm 1 i) h1 (fun i c hi hb ia N2 hN2=>?_) (fun c hb=>?_)
 ·have hi:i+1<as.length:=by exact far [_,_,_] [] (.b (.p Z0 (.n 1)) Z1) [.b Z0 Z2,.c (.p Z2 (.n 1)) Z1] [1,1,1] (fm hi (fm (ns2 (far [_] [] (.a (.n 1) Z0) [.b (.n 0) Z0] [1,1] (fm h1 fz) rfl)) fz)) rfl
  have hz':as.length<1000000:=Nat.lt_of_le_of_lt hz (by decide)
  conv=>whnf
  refine ⟨⟨(at_mem (j:=2) rfl),idx1 hi hz'⟩,?_⟩
  conv=>whnf
  refine ⟨.tail _ (.tail _ (.tail _ (hT _ hi))),?_⟩
  conv=>whnf
  refine ⟨⟨(at_mem (j:=2) rfl),idx1 hb hz'⟩,?_⟩
  conv=>whnf
  refine ⟨.tail _ (.tail _ (.tail _ (hT _ hb))),?_⟩
  conv=>whnf
  refine ⟨fun hc=>?_,fun hc=>?_⟩
  ·conv=>whnf
   exact hN2 (i+1,.int (i+1:Nat)) _ hi (Sub.refl _)
  ·conv=>whnf
   exact hN2 (c.1,.int (i+1:Nat)) _ hb (Sub.refl _)
 ·conv=>whnf
  refine ⟨⟨_,(at_mem (j:=1) rfl)⟩,?_⟩
  conv=>whnf
  refine CallP.pop [] (j:=1) rfl (Nat.le_trans hz (by decide)) hb ?_
  conv=>whnf
  exact hN _ _ (hs c.1) _ (hK c.1 hb) (Sub.refl _)
end
inductive Frst (G:Led):List Addr→List (List Nat)→Prop
 | nil:Frst G [] []
 | cons {a l:Addr} {w:Int} {t:List Nat} {as:List Addr} {fs:List (List Nat)}:(a,OS.tup [.int w,.ref l])∈G→(l,ilst (t.map Int.ofNat))∈G→Frst G as fs→Frst G (a::as) (t::fs)
theorem Frst.mono {G G':Led} {as:List Addr} {fs:List (List Nat)} (h:Frst G as fs) (k:∀ p∈G,p∈G'):Frst G' as fs:=by
 induction h with
 | nil=>exact .nil
 | cons m1 m2 _ ih=>exact .cons (k _ m1) (k _ m2) ih
theorem Frst.length {G:Led} {as:List Addr} {fs:List (List Nat)} (h:Frst G as fs):as.length=fs.length:=by
 induction h with
 | nil=>rfl
 | cons _ _ _ ih=>simp [ih]
theorem Frst.snoc {G:Led} {as:List Addr} {fs:List (List Nat)} {a l:Addr} {w:Int} {t:List Nat} (h:Frst G as fs) (m1:(a,OS.tup [.int w,.ref l])∈G) (m2:(l,ilst (t.map Int.ofNat))∈G):Frst G (as++[a]) (fs++[t]):=by
 induction h with
 | nil=>exact .cons m1 m2 .nil
 | cons n1 n2 _ ih=>exact .cons n1 n2 ih
theorem Frst.erase {G:Led} {as:List Addr} {fs:List (List Nat)} (h:Frst G as fs):∀ i,Frst G (as.eraseIdx i) (fs.eraseIdx i):=by
 induction h with
 | nil=>intro i; exact .nil
 | cons n1 n2 h ih=>
  intro i
  cases i with
  | zero=>exact h
  | succ i=>exact .cons n1 n2 (ih i)
theorem Frst.get {G:Led} {as:List Addr} {fs:List (List Nat)} (h:Frst G as fs):∀ {i:Nat},i<as.length→∃ w l,(as.getD i 0,OS.tup [.int w,.ref l])∈G∧(l,ilst ((fs.getD i []).map Int.ofNat))∈G:=by
 induction h with
 | nil=>intro i hi; simp at hi
 | @cons a l w t as fs n1 n2 h ih=>
  intro i hi
  cases i with
  | zero=>exact ⟨w,l,by simpa using n1,by simpa using n2⟩
  | succ i=>simpa using ih (by simpa using hi)
theorem Frst.fn {G:Led} {as:List Addr} {fs:List (List Nat)} (h:Frst G as fs):∃ F:Nat→Int×Addr,∀ k,k<as.length→(as.getD k 0,OS.tup (tupOf F k))∈G∧((F k).2,ilst ((fs.getD k []).map Int.ofNat))∈G:=by
 have q:∀ k,∃ p:Int×Addr,k<as.length→(as.getD k 0,OS.tup [.int p.1,.ref p.2])∈G∧(p.2,ilst ((fs.getD k []).map Int.ofNat))∈G:=fun k=>by
  rcases Nat.lt_or_ge k as.length with hk | hk
  ·obtain ⟨w,l,h1,h2⟩:=h.get hk
   exact ⟨(w,l),fun _=>⟨h1,h2⟩⟩
  ·exact ⟨(0,0),fun q=>absurd q (Nat.not_lt.mpr hk)⟩
 exact ⟨fun k=>Classical.choose (q k),fun k=>Classical.choose_spec (q k)⟩
theorem getD_erase_perm {α:Type} (d:α):∀ (l:List α) (i:Nat),i<l.length→l.Perm (l.getD i d::l.eraseIdx i)
 | a::l,0,_=>by simp
 | a::l,i+1,h=>by
  have:=getD_erase_perm d l i (by simpa using h)
  simp only [List.getD_cons_succ,List.eraseIdx_cons_succ]
  exact (this.cons a).trans (.swap ..)
theorem bump_take {lens:List Int} {t:List Nat} {i:Nat} (h:i<t.length):bump lens (t.take (i+1))=(bump lens (t.take i)).set (t.getD i 0) ((bump lens (t.take i)).getD (t.getD i 0) 0+1):=by
 unfold bump
 rw [List.take_add_one,List.getElem?_eq_getElem h,List.foldl_append]
 simp [List.getElem?_eq_getElem h]
section
variable {B:Bs} {nm:NM} {n:Nat} {l:Fr} {own:Led} {K:KE} {c:Addr} {cs:List Int}
theorem code_lengths_spec {C:Cx B nm (n+5)} (hs:Hs) (hz:cs.length≤900) (hK:∀ r lens,Huff cs lens→K (.ref r) ((r,ilst lens)::(c,ilst cs)::own) hs):CallP C l ((c,ilst cs)::own) (.ref 263) [.ref c] K:=by
 have hz':cs.length<1000000:=Nat.lt_of_le_of_lt hz (by decide)
 refine' fnK False [] [.l cs,.i 0] ["counts"] ["lengths","trees","symbol","first","second"] (fun h=>h.elim) ?fa ?fb ?fc rfl ?fe (fun D _ _ N hN=>?_)
 (case fa=>k_is); (case fb=>k_is); (case fc=>exact fun _ _=>BindsTo.of_eq rfl); (case fe=>rfl)
 conv=>whnf
 intro z
 conv=>whnf
 refine ⟨⟨(at_mem (j:=2) rfl),hz'⟩,?_⟩
 conv=>whnf
 refine ⟨⟨rfl,Int.natCast_nonneg _,Int.ofNat_le.mpr (Nat.le_of_lt hz')⟩,?_⟩
 intro le
 conv=>whnf
 intro T
 conv=>whnf
 refine StP.for_ [.l cs] (fun _=>rfl) ?_
 conv=>whnf
 refine ⟨⟨(at_mem (j:=4) rfl),hz'⟩,?_⟩
 conv=>whnf
 refine CallP.sub (Sub.ix [0,0,2,1] 1 _) (CallP.range1 [] fun r=>?_)
 refine FoP.rng (ι:=List Addr×Led×VS) cs.length (fun i=>(i:Nat)) (fun i c=>Frst c.2.1 c.1 ((usedP cs i).map fun s=>[s])∧Sub ((C.env.locals,.ns l)::own) c.2.1) (fun c'=>[("counts",.ref c),("lengths",.ref le),("trees",.ref T),("symbol",c'.2.2),("first",.any),("second",.any)])
  (fun c'=>(T,.lst (c'.1.map .ref))::(le,ilst (List.replicate cs.length 0))::(c,ilst cs)::c'.2.1) ([],(C.env.locals,.ns l)::own,.any) (fun i c'=>[.l cs,.i 1,.l cs,.i 3]) (fun _=>[.j]) (by lia) (by rfl) (fun i=>Int.zero_add _) ⟨.nil,Sub.refl _⟩ (fun i c' hi hI ia N2 hN2=>?_) (fun c' hI=>?_)
 ·have hal:c'.1.length≤i:=by rw [hI.1.length,List.length_map]; exact usedP_len cs i
  conv=>whnf
  refine ⟨⟨(at_mem (j:=3) rfl),idx1 hi hz'⟩,?_⟩
  conv=>whnf
  refine ⟨fun hc=>?_,fun hc=>?_⟩
  ·have hc:cs.getD i 0>0:=hc
   conv=>whnf
   refine ⟨rfl,?_⟩
   conv=>whnf
   refine ⟨⟨(at_mem (j:=3) rfl),idx1 hi hz'⟩,?_⟩
   conv=>whnf
   intro l'
   conv=>whnf
   intro a'
   conv=>whnf
   refine ⟨⟨rfl,by rw [List.length_map]; exact Nat.le_trans (Nat.le_trans hal (Nat.le_of_lt hi)) (Nat.le_of_lt hz')⟩,?_⟩
   have e:c'.1.map VS.ref++[.ref a']=(c'.1++[a']).map VS.ref:=(List.map_append (f:=VS.ref) (l₁:=c'.1) (l₂:=[a'])).symm
   rw [e]
   conv=>whnf
   refine hN2 (c'.1++[a'],(a',OS.tup [.int (cs.getD i 0),.ref l'])::(l',OS.lst [.int (i:Nat)])::c'.2.1,.int (i:Nat)) _ ⟨?_,.skip (.skip hI.2)⟩ (Sub.ix [2,2,2,2] 0 _)
   rw [usedP_succ,if_pos hc,List.map_append]
   exact (hI.1.mono fun p hp=>.tail _ (.tail _ hp)).snoc (.head _) (.tail _ (.head _))
  ·have hc:¬cs.getD i 0>0:=hc
   conv=>whnf
   refine hN2 (c'.1,c'.2.1,.int (i:Nat)) _ ⟨?_,hI.2⟩ (Sub.refl _)
   rw [usedP_succ,if_neg hc,List.append_nil]
   exact hI.1
 ·have hf:Frst c'.2.1 c'.1 ((used cs).map fun s=>[s]):=hI.1
  have hal:c'.1.length=(used cs).length:=by rw [hf.length,List.length_map]
  have hul:=used_len cs
  conv=>whnf
  obtain ⟨F,hF⟩:=hf.fn
  refine StP.join (ι:=List Addr×List (List Nat)×Led×List Int) (fun z=>Frst z.2.2.1 z.1 z.2.1∧Sub ((C.env.locals,.ns l)::own) z.2.2.1∧((Huff cs z.2.2.2∧z.2.1.length≤1)∨(HInv cs z.2.2.2 z.2.1∧2≤(used cs).length))∧z.2.1.length≤900∧z.2.2.2.length=cs.length)
   (fun z=>[("counts",.ref c),("lengths",.ref le),("trees",.ref T),("symbol",c'.2.2),("first",.any),("second",.any)]) (fun z=>(T,.lst (z.1.map .ref))::(le,ilst z.2.2.2)::(c,ilst cs)::z.2.2.1) [.r c'.1,.r c'.1,.t (tupOf F 0),.l [((used cs).getD 0 0:Nat)],.u 1 (List.replicate cs.length 0)] (fun _=>[]) (fun N2 hN2=>?_) (fun z hI=>?_)
  ·have hal9:c'.1.length<1000000:=by exact far [_,_,_] [] (.b Z0 (.n 1000000)) [.a Z1 (.n 900),.c Z0 Z2,.a Z2 Z1] [1,1,1,1] (fm hz (fm hal (fm hul fz))) rfl
   conv=>whnf
   refine ⟨⟨(at_mem (j:=0) rfl),hal9⟩,?_⟩
   conv=>whnf
   refine ⟨fun hc=>?_,fun hc=>?_⟩
   ·have hc:c'.1.length=1:=Int.ofNat.inj hc
    obtain ⟨s0,hs0⟩:=List.length_eq_one_iff.mp (hal.symm.trans hc)
    have hs0l:s0<cs.length:=used_lt (by rw [hs0]; exact .head _)
    have h1:=hF 0 (by rw [hc]; exact Nat.one_pos)
    rw [hs0] at h1 hf ⊢
    conv=>whnf
    refine ⟨⟨(at_mem (j:=0) rfl),idx1 (a:=0) (by rw [hc]; exact Nat.one_pos) hal9⟩,?_⟩
    conv=>whnf
    refine ⟨.tail _ (.tail _ (.tail _ h1.1)),?_⟩
    conv=>whnf
    refine ⟨⟨.tail _ (.tail _ (.tail _ h1.2)),idx1 (a:=0) (n:=1) Nat.one_pos (by decide)⟩,?_⟩
    conv=>whnf
    refine ⟨by rw [List.length_replicate]; exact idx1 hs0l hz',rfl,?_⟩
    conv=>whnf
    exact hN2 (c'.1,[[s0]],c'.2.1,(List.replicate cs.length 0).set s0 1) _ ⟨hf,hI.2,.inl ⟨huff_one hs0,Nat.le_refl 1⟩,Nat.le_of_ble_eq_true rfl,by rw [List.length_set,List.length_replicate]⟩ (Sub.refl _)
   ·have hc:c'.1.length≠1:=fun e=>hc (congrArg Nat.cast e)
    conv=>whnf
    refine hN2 (c'.1,(used cs).map fun s=>[s],c'.2.1,List.replicate cs.length 0) _ ⟨hf,hI.2,?_,by rw [List.length_map]; exact Nat.le_trans ‹_› ‹_›,List.length_replicate⟩ (Sub.refl _)
    rcases Nat.lt_or_ge (used cs).length 1 with q | q
    ·have q0:used cs=[]:=List.length_eq_zero_iff.mp (Nat.lt_one_iff.mp q)
     exact .inl ⟨huff_none q0,by rw [q0]; exact Nat.zero_le _⟩
    ·exact .inr ⟨hinv_init cs,by lia⟩
  ·conv=>whnf
   refine StP.while_ (ι:=List Addr×List (List Nat)×Led×List Int×VS×VS×VS) (fun k z=>k=z.2.1.length∧Frst z.2.2.1 z.1 z.2.1∧Sub ((C.env.locals,.ns l)::own) z.2.2.1∧((Huff cs z.2.2.2.1∧z.2.1.length≤1)∨(HInv cs z.2.2.2.1 z.2.1∧2≤(used cs).length))∧z.2.1.length≤900∧z.2.2.2.1.length=cs.length)
    (fun z=>[("counts",.ref c),("lengths",.ref le),("trees",.ref T),("symbol",z.2.2.2.2.1),("first",z.2.2.2.2.2.1),("second",z.2.2.2.2.2.2)]) (fun z=>(T,.lst (z.1.map .ref))::(le,ilst z.2.2.2.1)::(c,ilst cs)::z.2.2.1) _ (z.1,z.2.1,z.2.2.1,z.2.2.2,c'.2.2,.any,.any) (fun z=>[.r z.1]) ⟨rfl,hI⟩ (fun k z hI N2 hN2=>?_)
   have hk:=hI.1
   have hf:=hI.2.1
   have hG:=hI.2.2.1
   have hd:=hI.2.2.2.1
   have hfl:=hI.2.2.2.2.1
   have hll:=hI.2.2.2.2.2
   have hal:=hf.length
   have hz9:z.1.length<1000000:=by exact far [_,_] [] (.b Z0 (.n 1000000)) [.a Z1 (.n 900),.c Z0 Z1] [1,1,1] (fm hfl (fm hal fz)) rfl
   conv=>whnf
   refine ⟨⟨(at_mem (j:=0) rfl),hz9⟩,?_⟩
   conv=>whnf
   refine ⟨fun hc=>?_,fun hc=>?_⟩
   ·have hc:z.1.length>1:=Int.ofNat_lt.mp hc
    have hd:HInv cs z.2.2.2.1 z.2.1∧2≤(used cs).length:=hd.resolve_left fun q=>absurd q.2 (by lia)
    obtain ⟨F,hF⟩:=hf.fn
    conv=>whnf
    refine lightest_spec (fun _=>[]) (by exact Nat.le_of_lt ‹_›) (by exact far [_,_] [] (.a Z0 (.n 1000)) [.a Z1 (.n 900),.c Z0 Z1] [1,1,1] (fm hfl (fm hal fz)) rfl) F (fun k hk=>.tail _ (.tail _ (hF k hk).1)) fun i hi=>?_
    have hf1:=hf.erase i
    have hil:=List.length_eraseIdx_of_lt hi
    obtain ⟨F1,hF1⟩:=hf1.fn
    conv=>whnf
    refine lightest_spec (fun _=>[]) (by exact far [_,_,_] [] (.b (.n 0) Z0) [.b (.n 1) Z1,.c Z0 Z2,.a Z1 (.p Z2 (.n 1))] [1,1,-1,1] (fm hc (fm hil (fm (ns1 _ _) fz))) rfl) (by exact far [_,_,_,_] [] (.a Z0 (.n 1000)) [.a Z1 (.n 900),.c Z2 Z1,.c Z0 Z3,.a Z3 Z2] [1,1,1,1,1] (fm hfl (fm hal (fm hil (fm (Nat.sub_le _ _) fz)))) rfl) F1 (fun k hk=>.tail _ (.tail _ (hF1 k hk).1)) fun j hj=>?_
    have hf2:=hf1.erase j
    have hjl:=List.length_eraseIdx_of_lt hj
    have hm1:=hF i hi
    have hm2:=hF1 j hj
    have hpm:z.2.1.Perm (z.2.1.getD i []::(z.2.1.eraseIdx i).getD j []::(z.2.1.eraseIdx i).eraseIdx j):=
     (getD_erase_perm [] z.2.1 i (hal ▸ hi)).trans ((getD_erase_perm [] (z.2.1.eraseIdx i) j (by rw [← hf1.length]; exact hj)).cons _)
    generalize z.1.getD i 0=a1 at *
    generalize (z.1.eraseIdx i).getD j 0=a2 at *
    generalize (z.1.eraseIdx i).eraseIdx j=as2 at *
    generalize (z.2.1.eraseIdx i).eraseIdx j=fs2 at *
    generalize z.2.1.getD i []=t1 at *
    generalize (z.2.1.eraseIdx i).getD j []=t2 at *
    have hl12:(t1++t2).length≤900:=by
     have h1:=hpm.flatten.length_eq.symm.trans hd.1.perm.length_eq
     have h2:=used_len cs
     simp only [List.flatten_cons,List.length_append] at h1 ⊢
     exact far [_,_,_,_,_] [] (.a (.p Z0 Z1) (.n 900)) [.a Z2 (.n 900),.a Z3 Z2,.c (.p Z0 (.p Z1 Z4)) Z3] [1,1,1,1] (fm hz (fm h2 (fm h1 fz))) rfl
    have hin:∀ x∈t1++t2,x<cs.length:=fun x hx=>by
     refine used_lt (hd.1.perm.mem_iff.mp (hpm.flatten.mem_iff.mpr ?_))
     rw [List.flatten_cons,List.flatten_cons,← List.append_assoc]
     exact List.mem_append_left _ hx
    have hmg:=hinv_merge hd.1 hpm
    have hflen:=hpm.length_eq
    rw [List.length_cons,List.length_cons] at hflen
    have em:t1.map Int.ofNat++t2.map Int.ofNat=(t1++t2).map Int.ofNat:=List.map_append.symm
    have hml:((t1++t2).map Int.ofNat).length=(t1++t2).length:=List.length_map _
    have hma:(t1.map Int.ofNat).length+(t2.map Int.ofNat).length≤1000000:=by rw [← List.length_append,em,hml]; exact nA hl12 rfl
    conv=>whnf
    refine StP.for_ [.t (tupOf F i),.t (tupOf F1 j),.l (t1.map Int.ofNat),.l (t2.map Int.ofNat)] (fun _=>rfl) ?_
    conv=>whnf
    refine ⟨.tail _ (.tail _ (.tail _ hm1.1)),?_⟩
    conv=>whnf
    refine ⟨.tail _ (.tail _ (.tail _ hm2.1)),?_⟩
    conv=>whnf
    refine ⟨⟨.tail _ (.tail _ (.tail _ hm1.2)),.tail _ (.tail _ (.tail _ hm2.2)),hma⟩,?_⟩
    rw [em]
    intro r
    refine FoP.go (ι:=List Int×VS) (itrList B r (((t1++t2).map Int.ofNat).map .int)) (fun i y=>y.1=bump z.2.2.2.1 ((t1++t2).take i)) (fun y=>[("counts",.ref c),("lengths",.ref le),("trees",.ref T),("symbol",y.2),("first",.ref a1),("second",.ref a2)])
     (fun y=>(r,ilst ((t1++t2).map Int.ofNat))::(T,.lst (as2.map .ref))::(le,ilst y.1)::(c,ilst cs)::z.2.2.1) (z.2.2.2.1,z.2.2.2.2.1) (fun i=>.int ((t1++t2).getD i 0:Nat)) (fun i y=>[.l y.1,.u 3 y.1]) (fun _=>[.i 1,.t (tupOf F i),.t (tupOf F1 j),.t (tupOf F i),.t (tupOf F1 j),.l (t1.map Int.ofNat),.l (t2.map Int.ofNat),.i 3])
     (fun i h=>⟨?_,rfl⟩) (IterP.list (.head _)) rfl (fun _ _ _=>.tail _ (.head _)) (fun _ _ _ _ _ _ _ _ _ q=>wpAny_pure q) (fun i y hi hI ia N3 hN3=>?_) (fun y hI=>?_)
    ·have h:i<(t1++t2).length:=by simpa using (show i<(((t1++t2).map Int.ofNat).map VS.int).length from h)
     show ((((t1++t2).map Int.ofNat).map VS.int)[i]?).getD .any=_
     rw [List.getElem?_map,List.getElem?_map,List.getElem?_eq_getElem h,List.getD_eq_getElem?_getD,List.getElem?_eq_getElem h]; rfl
    ·have hi:i<(t1++t2).length:=by simpa using (show i<(((t1++t2).map Int.ofNat).map VS.int).length from hi)
     have hyl:y.1.length=cs.length:=by rw [hI,bump_length,hll]
     have hlt:(t1++t2).getD i 0<y.1.length:=by
      rw [hyl]
      refine hin _ ?_
      rw [List.getD_eq_getElem?_getD,List.getElem?_eq_getElem hi]
      exact List.getElem_mem hi
     have hb:=idx1 hlt (by rw [hyl]; exact hz')
     conv=>whnf
     refine ⟨⟨(at_mem (j:=3) rfl),hb⟩,?_⟩
     conv=>whnf
     refine ⟨hb,rfl,?_⟩
     conv=>whnf
     exact hN3 (_,.int ((t1++t2).getD i 0:Nat)) _ (by rw [bump_take hi,← hI]; rfl) (Sub.refl _)
    ·have hI:y.1=bump z.2.2.2.1 (t1++t2):=hI.trans (congrArg _ (List.take_of_length_le (by show _≤(((t1++t2).map Int.ofNat).map VS.int).length; rw [List.length_map,List.length_map]; exact Nat.le_refl _)))
     conv=>whnf
     refine ⟨rfl,?_⟩
     conv=>whnf
     refine ⟨.tail _ (.tail _ (.tail _ (.tail _ hm1.1))),?_⟩
     conv=>whnf
     refine ⟨.tail _ (.tail _ (.tail _ (.tail _ hm2.1))),?_⟩
     conv=>whnf
     refine ⟨.tail _ (.tail _ (.tail _ (.tail _ hm1.1))),?_⟩
     conv=>whnf
     refine ⟨.tail _ (.tail _ (.tail _ (.tail _ hm2.1))),?_⟩
     conv=>whnf
     refine ⟨⟨.tail _ (.tail _ (.tail _ (.tail _ hm1.2))),.tail _ (.tail _ (.tail _ (.tail _ hm2.2))),hma⟩,?_⟩
     rw [em]
     intro r2
     conv=>whnf
     intro a3
     conv=>whnf
     refine ⟨⟨rfl,by rw [List.length_map]; exact far [_,_,_,_,_,_] [] (.a Z0 (.n 1000000)) [.a Z1 (.n 900),.c Z2 Z1,.c Z3 Z4,.c Z0 Z5,.a Z4 Z2,.a Z5 Z3] [1,1,1,1,1,1,1] (fm hfl (fm hal (fm hil (fm hjl (fm (Nat.sub_le _ _) (fm (Nat.sub_le _ _) fz)))))) rfl⟩,?_⟩
     have e:as2.map VS.ref++[.ref a3]=(as2++[a3]).map VS.ref:=(List.map_append (f:=VS.ref) (l₁:=as2) (l₂:=[a3])).symm
     rw [e]
     conv=>whnf
     refine hN2 (fs2++[t1++t2]).length (as2++[a3],fs2++[t1++t2],(a3,OS.tup [.int ((F i).1+(F1 j).1),.ref r2])::(r2,ilst ((t1++t2).map Int.ofNat))::z.2.2.1,y.1,y.2,.ref a1,.ref a2) _ ?_ ⟨rfl,(hf2.mono fun p hp=>.tail _ (.tail _ hp)).snoc (.head _) (.tail _ (.head _)),.skip (.skip hG),.inr ⟨hI ▸ hmg,hd.2⟩,?_,by rw [hI,bump_length]; exact hll⟩ (Sub.ix [3,3,3,0,0] 1 _)
     ·rw [hk,List.length_append,List.length_singleton]; exact far [_,_] [] (.b (.p Z0 (.n 1)) Z1) [.c Z1 (.p (.p Z0 (.n 1)) (.n 1))] [1,-1] (fm hflen fz) rfl
     ·show (fs2++[t1++t2]).length≤900
      rw [List.length_append,List.length_singleton]; exact far [_,_] [] (.a (.p Z0 (.n 1)) (.n 900)) [.a Z1 (.n 900),.c Z1 (.p (.p Z0 (.n 1)) (.n 1))] [1,1,-1] (fm hfl (fm hflen fz)) rfl
   ·have hc:¬z.1.length>1:=fun q=>hc (Int.ofNat_lt.mpr q)
    have hd:Huff cs z.2.2.2.1:=hd.elim (·.1) fun hd=>by
     have h1:z.2.1.length≤1:=by exact far [_,_] [] (.a Z0 (.n 1)) [.g (.b (.n 1) Z1),.c Z1 Z0] [1,1,-1] (fm hc (fm hal fz)) rfl
     have h2:=hd.1.perm.length_eq
     match hfs:z.2.1,h1 with
     | [],_=>rw [hfs] at h2; exact absurd h2.symm (Nat.ne_of_gt (Nat.lt_of_lt_of_le Nat.two_pos hd.2))
     | [t],_=>exact huff_many (hfs ▸ hd.1) hd.2
    conv=>whnf
    exact hN _ _ hs _ (hK le _ hd) ((Sub.ix [2,0,0] 0 _).trans (.skip (.pick .head (.pick .head hG))))
end
end
section
theorem range_self {B:Bs} {a c:Int} {m:Nat}:Self (itrRange B a c m):=fun _ _ _ _ _ _ H h=>it_rangeI H h
theorem let_name {B:Bs} {I:Itr B} {x:Str} {p:Pos}:LetGo I (.Name x p):=fun _ _ _ _ _ _ _ _ _ _ q=>wpAny_pure q
theorem refs_item {B:Bs} {r:Addr} {as:List Addr} {i:Nat} (h:i<(itrList B r (as.map .ref)).n):(itrList B r (as.map .ref)).item i=VS.ref (as.getD i 0)∧nany (VS.ref (as.getD i 0))=true:=by
 have h:i<as.length:=by simpa using (show i<(as.map VS.ref).length from h)
 refine ⟨?_,rfl⟩
 show ((as.map VS.ref)[i]?).getD .any=_
 rw [List.getElem?_map,List.getElem?_eq_getElem h,List.getD_eq_getElem?_getD,List.getElem?_eq_getElem h]; rfl
section
variable {B:Bs} {nm:NM} {n:Nat} {l:Fr} {own:Led} {K:KE} {c:Addr} {lens:List Int}
theorem ordered_spec {C:Cx B nm (n+3)} (hs:List Addr→Led→Hs) (hz:lens.length≤900) (h64:(used lens).length<64) (hK:∀ r as G,Tups G as (osy lens)→K (.ref r) ((r,.lst (as.map .ref))::(c,ilst lens)::(own++G)) (hs as G)):
  CallP C l ((c,ilst lens)::own) (.ref 268) [.ref c] K:=by
 have hz':lens.length<1000000:=Nat.lt_of_le_of_lt hz (by decide)
 refine' fnC (fun _=>[]) ["lengths"] [] [("lengths",0,.ref c)] (fun L r=>(L+1+0,.cell (.ref c))::r) (fun _ _=>rfl) ?fa ?fb ?fc rfl ?fk (fun us hu=>?fl) (fun L us hu=>?fm) (by show ([0]:List Nat).Nodup; decide) ?fe (fun L D hD _ N hN=>?_)
 (case fa=>k_is); (case fb=>k_is); (case fc=>exact fun _=>rfl); (case fe=>rfl)
 case fk=>exact fun L x hx=>by rw [List.mem_singleton.mp hx]; exact .inr ⟨rfl,rfl⟩
 case fl=>obtain rfl:=oksR hu; exact ⟨fun p hp=>(by cases hp),List.nodup_nil,fun x _=>rfl⟩
 case fm=>obtain rfl:=oksR hu; exact fun c hc=>by rw [List.mem_singleton.mp hc]; exact ⟨rfl,rfl⟩
 have hcl:D.env.cells.lookup (Str.ofString "lengths")=some (L+1+0):=by rw [hD]; rfl
 conv=>whnf
 refine EvP.comp D [("lengths",L+1+0)] [.i 0,.l lens] rfl (by rw [hD]; rfl) (fun _=>rfl) ?_
 conv=>whnf
 refine ⟨hcl,?_⟩
 conv=>whnf
 refine ⟨⟨(at_mem (j:=2) rfl),hz'⟩,?_⟩
 conv=>whnf
 refine CallP.range1 [] fun r=>?_
 refine CmP.go (ι:=List Addr×Led) D (itrRange B 0 1 lens.length) [("symbol",.any)] (fun i vs z=>vs=z.1.map .ref∧Tups z.2 z.1 ((usedP lens i).map fun (s:Nat)=>(lens.getD s 0,(s:Int)))∧i≤lens.length)
  (fun z=>(L+1+0,.cell (.ref c))::(C.env.locals,.ns l)::(c,ilst lens)::(z.2++own)) ([],[]) (fun i=>.int (i:Nat)) (fun i vs z=>[.i 3,.l lens,.i 3,.l lens]) (fun _=>[]) rfl ⟨rfl,fun p hp=>by rw [List.mem_singleton.mp hp]⟩ (fun i _=>⟨by show VS.int (0+i*1)=_; rw [Int.zero_add,Int.mul_one],rfl⟩) (IterP.range (by lia) (by rfl)) range_self let_name ⟨rfl,.nil,Nat.zero_le _⟩ (fun _ _ _ _ _=>trivial) (fun i vs z hI=>?_) (fun i vs z hi hI ia a D' N1 N0 h1 h0=>?_) (fun D' vs z hI=>?_)
 ·have h1:=hI.2.1.length
  rw [List.length_map] at h1
  rw [hI.1,List.length_map,h1]
  exact Nat.le_trans (usedP_len lens i) (Nat.le_trans hI.2.2 (Nat.le_of_lt hz'))
 ·conv=>whnf
  refine ⟨rfl,?_⟩
  conv=>whnf
  refine ⟨⟨(at_mem (j:=5) rfl),idx1 hi hz'⟩,?_⟩
  conv=>whnf
  refine ⟨fun hc=>?_,fun hc=>?_⟩
  ·have hc:lens.getD i 0>0:=hc
   conv=>whnf
   refine ⟨rfl,?_⟩
   conv=>whnf
   refine ⟨⟨(at_mem (j:=5) rfl),idx1 hi hz'⟩,?_⟩
   conv=>whnf
   intro a'
   conv=>whnf
   refine ⟨rfl,?_⟩
   refine h1 _ (z.1++[a'],(a',OS.tup [.int (lens.getD i 0),.int (i:Nat)])::z.2) _ _ rfl ⟨by rw [hI.1]; exact (List.map_append (f:=VS.ref) (l₁:=z.1) (l₂:=[a'])).symm,?_,hi⟩ (Sub.ix [1,1,1,1,1,1,0] 0 _)
   rw [usedP_succ,if_pos hc,List.map_append]
   exact (hI.2.1.mono fun p hp=>.tail _ hp).snoc (.head _)
  ·have hc:¬lens.getD i 0>0:=hc
   conv=>whnf
   refine h0 z _ _ rfl ⟨hI.1,?_,hi⟩ (Sub.refl _)
   rw [usedP_succ,if_neg hc,List.append_nil]
   exact hI.2.1
 ·have hI1:=hI.1
  subst hI1
  conv=>whnf
  refine CallP.sorted [] (at_mem (j:=0) rfl) hI.2.1 (fun p hp=>.tail _ (.tail _ (.tail _ (.tail _ (List.mem_append_left _ hp))))) (pairs_nodup lens) (by show (pairs lens).length<64; rw [pairs_len]; exact h64) fun r as' ps' h1 h2 h3=>?_
  rw [osy_eq h1 h2] at h3
  conv=>whnf
  exact hN _ _ (hs as' z.2) _ (hK r as' z.2 h3) ((Sub.pick .head (.pick .head (.pick .head (Sub.comm _ _)))).trans (Sub.ix [3,0,2] 2 _))
end
end
section
inductive CD (G:Led):List (Int×Value)→List (Int×Int×Int)→Prop
 | nil:CD G [] []
 | cons {a:Addr} {x:Int×Int×Int} {kvs:List (Int×Value)} {cs:List (Int×Int×Int)}:(a,OS.tup [.int x.2.1,.int x.2.2])∈G→CD G kvs cs→CD G ((x.1,.ref a)::kvs) (x::cs)
theorem CD.mono {G G':Led} {kvs:List (Int×Value)} {cs:List (Int×Int×Int)} (h:CD G kvs cs) (k:∀ p∈G,p∈G'):CD G' kvs cs:=by
 induction h with
 | nil=>exact .nil
 | cons m _ ih=>exact .cons (k _ m) ih
theorem CD.snoc {G:Led} {kvs:List (Int×Value)} {cs:List (Int×Int×Int)} {a:Addr} {s c l:Int} (h:CD G kvs cs) (m:(a,OS.tup [.int c,.int l])∈G):CD G (kvs++[(s,.ref a)]) (cs++[(s,c,l)]):=by
 induction h with
 | nil=>exact .cons (x:=(s,c,l)) m .nil
 | cons n _ ih=>exact .cons n ih
theorem CD.keys {G:Led} {kvs:List (Int×Value)} {cs:List (Int×Int×Int)} (h:CD G kvs cs):kvs.map (·.1)=cs.map (·.1):=by
 induction h with
 | nil=>rfl
 | cons _ _ ih=>simp [ih]
theorem CD.length {G:Led} {kvs:List (Int×Value)} {cs:List (Int×Int×Int)} (h:CD G kvs cs):kvs.length=cs.length:=by
 have:=congrArg List.length h.keys
 simpa using this
theorem CD.get {G:Led} {kvs:List (Int×Value)} {cs:List (Int×Int×Int)} (h:CD G kvs cs) {x:Int×Int×Int} (hx:x∈cs):∃ a,(x.1,Value.ref a)∈kvs∧(a,OS.tup [.int x.2.1,.int x.2.2])∈G:=by
 induction h with
 | nil=>cases hx
 | cons m _ ih=>
  rcases List.mem_cons.mp hx with rfl | hx
  ·exact ⟨_,.head _,m⟩
  ·obtain ⟨a,h1,h2⟩:=ih hx
   exact ⟨a,.tail _ h1,h2⟩
theorem CD.at {G:Led} {kvs:List (Int×Value)} {cs:List (Int×Int×Int)} (h:CD G kvs cs):∀ {i:Nat} {k:Int} {v:Value},kvs[i]?=some (k,v)→∃ a x,v=.ref a∧cs[i]?=some x∧x.1=k∧(a,OS.tup [.int x.2.1,.int x.2.2])∈G:=by
 induction h with
 | nil=>intro i k v q; simp at q
 | @cons a x kvs cs m _ ih=>
  intro i k v q
  cases i with
  | zero=>simp at q; obtain ⟨rfl,rfl⟩:=q; exact ⟨a,x,rfl,by simp,rfl,m⟩
  | succ i=>simpa using ih (by simpa using q)
theorem cgo_len:∀ (ps:List (Int×Int)) (c b:Int),(cgo c b ps).length=ps.length
 | [],_,_=>rfl
 | (l,s)::r,c,b=>by simp [cgo,cgo_len r]
theorem cgo_syms:∀ (ps:List (Int×Int)) (c b:Int),(cgo c b ps).map (·.1)=ps.map (·.2)
 | [],_,_=>rfl
 | (l,s)::r,c,b=>by simp [cgo,cgo_syms r]
theorem osy_syms_nodup (lens:List Int):((osy lens).map (·.2)).Nodup:=by
 have h:((pairs lens).map (·.2)).Nodup:=by
  unfold pairs
  rw [List.map_map]
  unfold List.Nodup
  rw [List.pairwise_map]
  exact (used_nodup lens).imp fun h e=>h (by simp at e; exact Nat.le_antisymm (far [_,_] [] (.a Z0 Z1) [.f X0 X1] [1,1] (fm e fz) rfl) (far [_,_] [] (.a Z0 Z1) [.f X1 X0] [1,-1] (fm e fz) rfl))
 exact ((osy_perm lens).map (·.2)).symm.nodup h
theorem codes_syms_nodup (lens:List Int):((codes lens).map (·.1)).Nodup:=by unfold codes; rw [cgo_syms]; exact osy_syms_nodup lens
structure CodesOk (lens:List Int):Prop where
 bd:∀ x∈codes lens,0≤x.2.1∧x.2.1<2 ^ x.2.2.toNat
theorem shl_ok {cv:Int} {k m:Nat} (h0:0≤cv) (h:cv*2 ^ k<2 ^ m) (hm:m≤64):cv.natAbs<2 ^ 64:=by
 have h1:(2:Int) ^ m≤2 ^ 64:=by exact_mod_cast Nat.pow_le_pow_right (n:=2) (by decide) hm
 have h2:(1:Int)≤2 ^ k:=by exact_mod_cast Nat.pow_pos (n:=k) (show 0<2 by decide)
 have h3:=Int.mul_le_mul_of_nonneg_left h2 h0
 lia
section
variable {B:Bs} {nm:NM} {n:Nat} {l:Fr} {own:Led} {K:KE} {c:Addr} {lens:List Int}
theorem codes_spec {C:Cx B nm (n+6)} (hs:List (Int×Value)→Led→Hs) (hz:lens.length≤900) (h64:(used lens).length<64) (hl:∀ i,lens.getD i 0≤64) (hok:CodesOk lens)
  (hK:∀ d kvs G,CD G kvs (codes lens)→K (.ref d) ((d,idic B kvs)::(c,ilst lens)::(own++G)) (hs kvs G)):CallP C l ((c,ilst lens)::own) (.ref 275) [.ref c] K:=by
 refine' fnK False [] [] ["lengths"] ["codes","code","before","length","symbol"] (fun h=>h.elim) ?fa ?fb ?fc rfl ?fe (fun D _ _ N hN=>?_)
 (case fa=>k_is); (case fb=>k_is); (case fc=>exact fun _ _=>BindsTo.of_eq rfl); (case fe=>rfl)
 conv=>whnf
 refine EvP.dict [] fun d=>?_
 conv=>whnf
 refine StP.for_ [] (fun _=>rfl) ?_
 conv=>whnf
 refine CallP.sub (Sub.ix [2] 0 _) (ordered_spec (fun _ _=>[]) hz h64 fun r as G ht=>?_)
 have hal:=ht.length
 have hol:=osy_len lens
 refine FoP.go (ι:=List (Int×Int×Int)×List (Int×Value)×Led×Int×Int×VS×VS) (itrList B r (as.map .ref)) (fun i z=>z.1.length=i∧CD z.2.2.1 z.2.1 z.1∧codes lens=z.1++cgo z.2.2.2.1 z.2.2.2.2.1 ((osy lens).drop i)∧(∀ p∈(osy lens).drop i,z.2.2.2.2.1≤p.1)∧0≤z.2.2.2.1∧0≤z.2.2.2.2.1)
  (fun z=>[("lengths",.ref c),("codes",.ref d),("code",.int z.2.2.2.1),("before",.int z.2.2.2.2.1),("length",z.2.2.2.2.2.1),("symbol",z.2.2.2.2.2.2)]) (fun z=>(r,.lst (as.map .ref))::(c,ilst lens)::(d,idic B z.2.1)::(C.env.locals,.ns l)::(z.2.2.1++(own++G))) ([],[],[],0,0,.any,.any)
  (fun i=>.ref (as.getD i 0)) (fun i z=>[.t [.int ((osy lens).getD i (0,0)).1,.int ((osy lens).getD i (0,0)).2],.x]) (fun _=>[]) (fun i h=>refs_item h) (IterP.list (.head _)) ⟨rfl,.nil,rfl,fun p hp=>?_,Int.le_refl _,Int.le_refl _⟩ (fun _ _ _=>.tail _ (.head _)) (fun _ _ _ _ _ _ _ _ H h=>list_let H h) (fun i z hi hI ia N2 hN2=>?_) (fun z hI=>?_)
 ·obtain ⟨i,hi,rfl⟩:=osy_mem (List.mem_of_mem_drop hp)
  exact Int.le_of_lt (used_pos hi)
 ·have hi:i<(osy lens).length:=hal ▸ (by simpa using (show i<(as.map VS.ref).length from hi))
  have hdl:=hI.1
  have hcd:=hI.2.1
  have hcs:=hI.2.2.1
  have hbv:=hI.2.2.2.1
  have hc0:=hI.2.2.2.2.1
  have hb0:=hI.2.2.2.2.2
  have hm:=ht.get hi
  have hdr:(osy lens).drop i=(osy lens).getD i (0,0)::(osy lens).drop (i+1):=by
   rw [List.drop_eq_getElem_cons hi,List.getD_eq_getElem?_getD,List.getElem?_eq_getElem hi]; rfl
  have hpm:(osy lens).getD i (0,0)∈osy lens:=by
   rw [List.getD_eq_getElem?_getD,List.getElem?_eq_getElem hi]
   exact List.getElem_mem _
  have hpw:=(osy_sorted lens).sublist (List.drop_sublist i _)
  rw [hdr] at hpw hcs hbv
  generalize as.getD i 0=pa at *
  generalize (osy lens).getD i (0,0)=p at *
  obtain ⟨j,hj,ej⟩:=osy_mem hpm
  have hp64:p.1≤64∧0<p.1:=by rw [ej]; exact ⟨hl j,used_pos hj⟩
  have hbl:=hbv _ (.head _)
  have hcs':codes lens=(z.1++[(p.2,z.2.2.2.1*2 ^ (p.1-z.2.2.2.2.1).toNat,p.1)])++cgo (z.2.2.2.1*2 ^ (p.1-z.2.2.2.2.1).toNat+1) p.1 ((osy lens).drop (i+1)):=by rw [hcs,List.append_assoc]; rfl
  have hxm:(p.2,z.2.2.2.1*2 ^ (p.1-z.2.2.2.2.1).toNat,p.1)∈codes lens:=by rw [hcs']; exact List.mem_append_left _ (List.mem_append_right _ (.head _))
  have hnk:p.2 ∉ z.2.1.map (·.1):=by
   rw [hcd.keys]
   have:=codes_syms_nodup lens
   rw [hcs',List.map_append,List.map_append] at this
   exact fun q=>(List.nodup_append.mp (List.nodup_append.mp this).1).2.2 _ q _ (.head _) rfl
  have hbd:=hok.bd _ hxm
  have hsh:=shl_ok (m:=p.1.toNat) hc0 hbd.2 (by exact far [_] [_] (.a Z0 (.n 64)) [.d Y0 (.z 64),.f X0 Y0] [1,1,1] (fm hp64.1 (fm (it2 (far [] [_] (.d (.z 0) Y0) [.e (.z 0) Y0] [1,1] (fm hp64.2 fz) rfl)) fz)) rfl)
  have hkl:z.2.1.length≤1000000:=by rw [hcd.length]; have:=used_len lens; exact far [_,_,_,_] [] (.a Z0 (.n 1000000)) [.b Z1 Z2,.b Z3 (.n 64),.c Z2 Z3,.c Z0 Z1] [1,1,1,1,1] (fm hi (fm h64 (fm hol (fm hdl fz)))) rfl
  conv=>whnf
  refine ⟨.tail _ (.tail _ (.tail _ (.tail _ (.tail _ (List.mem_append_right _ (List.mem_append_right _ hm)))))),?_⟩
  conv=>whnf
  refine ⟨⟨by lia,by lia,hsh⟩,?_⟩
  conv=>whnf
  intro a'
  conv=>whnf
  refine SiP.dict [] 4 rfl hkl hnk ?_
  conv=>whnf
  refine hN2 (z.1++[(p.2,z.2.2.2.1*2 ^ (p.1-z.2.2.2.2.1).toNat,p.1)],z.2.1++[(p.2,Value.ref a')],(a',OS.tup [.int (z.2.2.2.1*2 ^ (p.1-z.2.2.2.2.1).toNat),.int p.1])::z.2.2.1,z.2.2.2.1*2 ^ (p.1-z.2.2.2.2.1).toNat+1,p.1,.int p.1,.int p.2) _
   ⟨by rw [List.length_append,hdl]; rfl,(hcd.mono fun p hp=>.tail _ hp).snoc (.head _),hcs',fun q hq=>?_,by have:=hbd.1; dsimp only at this ⊢; lia,Int.le_of_lt hp64.2⟩ (Sub.ix [1,1,1,1,1,0] 0 _)
  have:=(List.pairwise_cons.mp hpw).1 q hq
  simp only [plt,decide_eq_true_eq] at this
  show p.1≤q.1
  lia
 ·have hdl:=hI.1
  have hcd:=hI.2.1
  have hcs:=hI.2.2.1
  have hn:(itrList B r (as.map .ref)).n=(osy lens).length:=(List.length_map _).trans hal
  rw [hn,List.drop_length] at hcs
  have hcs:codes lens=z.1:=hcs.trans (List.append_nil _)
  rw [← hcs] at hcd
  conv=>whnf
  exact hN _ _ (hs z.2.1 (z.2.2.1++G)) _ (hK d z.2.1 (z.2.2.1++G) (hcd.mono fun p hp=>List.mem_append_left _ hp)) ((Sub.pick .head (.pick .head (.pick .head (Sub.mid _ _ _)))).trans (Sub.ix [3,2,1] 1 _))
end
end
section
theorem ksum_take (g:Int) (ps:List (Int×Int)) (i:Nat) (h:i<ps.length):ksum g (ps.take (i+1))=ksum g (ps.take i)+2 ^ (g-(ps.getD i (0,0)).1).toNat:=by
 unfold ksum
 rw [List.take_add_one,List.getElem?_eq_getElem h,List.foldl_append]
 simp [List.getElem?_eq_getElem h]
theorem osy_last {lens:List Int} {p:Int×Int} (h:p∈osy lens):p.1≤((osy lens).getD ((osy lens).length-1) (0,0)).1:=by
 obtain ⟨i,hi,rfl⟩:=List.mem_iff_getElem.mp h
 rw [List.getD_eq_getElem?_getD,List.getElem?_eq_getElem (by exact far [_,_] [] (.b Z0 Z1) [.c (.p Z0 (.n 1)) Z1] [1,1] (fm (ns2 (far [_,_] [] (.a (.n 1) Z0) [.b Z1 Z0] [1,1] (fm hi fz) rfl)) fz) rfl)]
 by_cases e:i=(osy lens).length-1
 ·subst e; exact Int.le_refl _
 ·have:=List.pairwise_iff_getElem.mp (osy_sorted lens) i ((osy lens).length-1) hi (by exact far [_,_] [] (.b Z0 Z1) [.c (.p Z0 (.n 1)) Z1] [1,1] (fm (ns2 (far [_,_] [] (.a (.n 1) Z0) [.b Z1 Z0] [1,1] (fm hi fz) rfl)) fz) rfl) (by lia)
  simp only [plt,decide_eq_true_eq] at this
  simp only [Option.getD_some]
  omega
theorem getD_osy_mem {lens:List Int} {i:Nat} (h:i<(osy lens).length):(osy lens).getD i (0,0)∈osy lens:=by
 rw [List.getD_eq_getElem?_getD,List.getElem?_eq_getElem h]
 exact List.getElem_mem _
section
variable {B:Bs} {nm:NM} {n:Nat} {l:Fr} {own:Led} {K:KE} {c:Addr} {lens:List Int}
theorem complete_spec {C:Cx B nm (n+6)} (hs:Hs) (hz:lens.length≤900) (h64:(used lens).length<64) (hl:∀ i,lens.getD i 0≤64)
  (hK:K (.bool (complete lens)) ((c,ilst lens)::own) hs):CallP C l ((c,ilst lens)::own) (.ref 282) [.ref c] K:=by
 refine' fnK False [] [] ["lengths"] ["found","longest","total","length","symbol"] (fun h=>h.elim) ?fa ?fb ?fc rfl ?fe (fun D _ _ N hN=>?_)
 (case fa=>k_is); (case fb=>k_is); (case fc=>exact fun _ _=>BindsTo.of_eq rfl); (case fe=>rfl)
 conv=>whnf
 have hol:=osy_len lens
 refine CallP.sub (Sub.ix [1] 0 _) (ordered_spec (fun as G=>[.r as,.b [.r as,.r as,.t [.int ((osy lens).getD 0 (0,0)).1,.int ((osy lens).getD 0 (0,0)).2]] [.x]]) hz h64 fun r as G ht=>?_)
 have hal:=ht.length
 have hz':as.length<1000000:=by exact far [_,_,_] [] (.b Z0 (.n 1000000)) [.b Z1 (.n 64),.c Z2 Z1,.c Z0 Z2] [1,1,1,1] (fm h64 (fm hol (fm hal fz))) rfl
 have hG:∀ {i},i<(osy lens).length→∀ {q:Led},(as.getD i 0,OS.tup [.int ((osy lens).getD i (0,0)).1,.int ((osy lens).getD i (0,0)).2])∈q++(own++G):=fun {_} hi {_}=>List.mem_append_right _ (List.mem_append_right _ (ht.get hi))
 unfold complete at hK
 conv=>whnf
 refine ⟨⟨(at_mem (j:=0) rfl),hz'⟩,?_⟩
 conv=>whnf
 refine ⟨fun h2=>?_,fun h2=>?_⟩
 ·have h2:(osy lens).length<2:=hal ▸ Int.ofNat_lt.mp h2
  rw [if_pos h2] at hK
  conv=>whnf
  refine ⟨⟨(at_mem (j:=0) rfl),hz'⟩,?_⟩
  conv=>whnf
  refine ⟨fun h1=>?_,fun h1=>?_⟩
  ·have h1:as.length=1:=Int.ofNat.inj (of_decide_eq_true h1)
   conv=>whnf
   refine ⟨⟨(at_mem (j:=0) rfl),idx1 (a:=0) (h1 ▸ Nat.one_pos) hz'⟩,?_⟩
   conv=>whnf
   refine ⟨hG (q:=[_,_,_]) (i:=0) (by exact far [_,_] [] (.b (.n 0) Z0) [.c Z1 (.n 1),.c Z1 Z0] [1,-1,1] (fm h1 (fm hal fz)) rfl),?_⟩
   conv=>whnf
   refine hN _ _ hs _ ?_ ((Sub.pick .head (.pick .head (Sub.left _ _))).trans (Sub.ix [2,1] 1 _))
   rw [decide_eq_decide.mpr (⟨fun q=>q.2,fun q=>⟨hal ▸ h1,q⟩⟩:((osy lens).length=1∧((osy lens).getD 0 (0,0)).1=1) ↔ ((osy lens).getD 0 (0,0)).1=1)] at hK
   exact hK
  ·have h1:(osy lens).length≠1:=fun q=>h1 (decide_eq_true (congrArg Nat.cast (hal.trans q)))
   rw [decide_eq_false (fun q=>h1 q.1)] at hK
   conv=>whnf
   exact hN _ _ hs _ hK ((Sub.pick .head (.pick .head (Sub.left _ _))).trans (Sub.ix [2,1] 1 _))
 ·have h2:¬(osy lens).length<2:=fun q=>h2 (Int.ofNat_lt.mpr (hal.symm ▸ q))
  rw [if_neg h2] at hK
  have hlast:=getD_osy_mem (lens:=lens) (i:=(osy lens).length-1) (by exact far [_,_] [] (.b Z0 Z1) [.c (.p Z0 (.n 1)) Z1] [1,1] (fm (ns2 (far [_] [] (.a (.n 1) Z0) [.g (.b Z0 (.n 2))] [1,1] (fm h2 fz) rfl)) fz) rfl)
  have hgl:=hG (q:=[(r,.lst (as.map .ref)),(c,ilst lens),(C.env.locals,.ns l)]) (i:=(osy lens).length-1) (by exact far [_,_] [] (.b Z0 Z1) [.c (.p Z0 (.n 1)) Z1] [1,1] (fm (ns2 (far [_] [] (.a (.n 1) Z0) [.g (.b Z0 (.n 2))] [1,1] (fm h2 fz) rfl)) fz) rfl)
  obtain ⟨j,hj,ej⟩:=osy_mem hlast
  have hg64:0<((osy lens).getD ((osy lens).length-1) (0,0)).1∧((osy lens).getD ((osy lens).length-1) (0,0)).1≤64:=by rw [ej]; exact ⟨used_pos hj,hl j⟩
  have hol':∀ p∈osy lens,0<p.1∧p.1≤((osy lens).getD ((osy lens).length-1) (0,0)).1:=fun p hp=>by
   refine ⟨?_,osy_last hp⟩
   obtain ⟨j,hj,rfl⟩:=osy_mem hp
   exact used_pos hj
  rw [← hal] at hgl hK hg64 hol'
  generalize (osy lens).getD (as.length-1) (0,0)=pl at *
  conv=>whnf
  refine ItP.last rfl [.t [.int pl.1,.int pl.2]] (at_mem (j:=0) rfl) (by exact far [_,_] [] (.b (.n 0) Z0) [.g (.b Z1 (.n 2)),.c Z0 Z1] [1,1,-1] (fm h2 (fm hal fz)) rfl) hz' ?_
  conv=>whnf
  refine ⟨hgl,?_⟩
  conv=>whnf
  refine StP.for_ [] (fun _=>rfl) ?_
  conv=>whnf
  refine FoP.go (ι:=Int×VS×VS) (itrList B r (as.map .ref)) (fun i z=>z.1=ksum pl.1 ((osy lens).take i)) (fun z=>[("lengths",.ref c),("found",.ref r),("longest",.int pl.1),("total",.int z.1),("length",z.2.1),("symbol",z.2.2)]) (fun _=>(r,.lst (as.map .ref))::(c,ilst lens)::(C.env.locals,.ns l)::(own++G)) (0,.any,.any)
   (fun i=>.ref (as.getD i 0)) (fun i z=>[.t [.int ((osy lens).getD i (0,0)).1,.int ((osy lens).getD i (0,0)).2]]) (fun _=>[]) (fun i h=>refs_item h) (IterP.list (.head _)) rfl (fun _ _ _=>.tail _ (.head _)) (fun _ _ _ _ _ _ _ _ H h=>list_let H h) (fun i z hi hI ia N2 hN2=>?_) (fun z hI=>?_)
  ·have hi:i<(osy lens).length:=hal ▸ (by simpa using (show i<(as.map VS.ref).length from hi))
   have hb:=hol' _ (getD_osy_mem hi)
   conv=>whnf
   refine ⟨hG (q:=[_,_,_,_]) hi,?_⟩
   conv=>whnf
   refine ⟨⟨by exact far [] [_,_] (.d (.z 0) (.s Y0 Y1)) [.d Y1 Y0] [1,1] (fm hb.2 fz) rfl,by exact far [] [_,_] (.d (.s Y0 Y1) (.z 1000000)) [.e (.z 0) Y1,.d Y0 (.z 64)] [1,1,1] (fm hb.1 (fm hg64.2 fz)) rfl,by decide⟩,?_⟩
   conv=>whnf
   exact hN2 (_,.int ((osy lens).getD i (0,0)).1,.int ((osy lens).getD i (0,0)).2) _ (by rw [ksum_take _ _ _ hi,← hI,Int.one_mul]) (Sub.refl _)
  ·have hn:(osy lens).take (itrList B r (as.map .ref)).n=osy lens:=List.take_of_length_le (by show _≤(as.map VS.ref).length; rw [List.length_map,hal]; exact Nat.le_refl _)
   rw [hn] at hI
   rw [← hI,← Int.one_mul (2 ^ pl.1.toNat)] at hK
   conv=>whnf
   refine ⟨⟨by lia,by lia,by decide⟩,?_⟩
   conv=>whnf
   exact hN _ _ hs _ hK ((Sub.pick .head (.pick .head (Sub.left _ _))).trans (Sub.ix [2,1] 1 _))
end
inductive TD (G:Led):List (List Int×Addr×Value)→List (Int×Int×Int)→Prop
 | nil:TD G [] []
 | cons {a:Addr} {t:Tok} {x:Int×Int×Int} {xs:List (List Int×Addr×Value)} {cs:List (Int×Int×Int)}:(a,OS.tup [.int x.2.1,.int x.2.2])∈G→TD G xs cs→TD G (([x.2.1,x.2.2],a,.int x.1 t)::xs) (x::cs)
theorem TD.mono {G G':Led} {xs:List (List Int×Addr×Value)} {cs:List (Int×Int×Int)} (h:TD G xs cs) (k:∀ p∈G,p∈G'):TD G' xs cs:=by
 induction h with
 | nil=>exact .nil
 | cons m _ ih=>exact .cons (k _ m) ih
theorem TD.snoc {G:Led} {xs:List (List Int×Addr×Value)} {cs:List (Int×Int×Int)} {a:Addr} {t:Tok} {x:Int×Int×Int} (h:TD G xs cs) (m:(a,OS.tup [.int x.2.1,.int x.2.2])∈G):TD G (xs++[([x.2.1,x.2.2],a,.int x.1 t)]) (cs++[x]):=by
 induction h with
 | nil=>exact .cons m .nil
 | cons n _ ih=>exact .cons n ih
theorem TD.length {G:Led} {xs:List (List Int×Addr×Value)} {cs:List (Int×Int×Int)} (h:TD G xs cs):xs.length=cs.length:=by
 induction h with
 | nil=>rfl
 | cons _ _ ih=>simp [ih]
theorem TD.keys {G:Led} {xs:List (List Int×Addr×Value)} {cs:List (Int×Int×Int)} (h:TD G xs cs):TKeys G xs:=by
 induction h with
 | nil=>intro p hp; cases hp
 | cons m _ ih=>
  intro p hp
  rcases List.mem_cons.mp hp with rfl | hp
  ·exact ⟨_,_,rfl,m⟩
  ·exact ih p hp
theorem TD.find {G:Led} {xs:List (List Int×Addr×Value)} {cs:List (Int×Int×Int)} (h:TD G xs cs) (c l:Int):
  (cs.find? (fun x=>decide (x.2.1=c∧x.2.2=l))=none→atKey xs [c,l]=none)∧(∀ x,cs.find? (fun x=>decide (x.2.1=c∧x.2.2=l))=some x→∃ a t,atKey xs [c,l]=some (a,.int x.1 t)):=by
 induction h with
 | nil=>exact ⟨fun _=>rfl,fun x q=>by simp at q⟩
 | @cons a t x xs cs m _ ih=>
  by_cases e:x.2.1=c∧x.2.2=l
  ·refine ⟨fun q=>?_,fun y q=>?_⟩
   ·rw [List.find?_cons_of_pos (by simpa using e)] at q; cases q
   ·rw [List.find?_cons_of_pos (by simpa using e)] at q
    cases q
    refine ⟨a,t,?_⟩
    unfold atKey
    rw [List.find?_cons_of_pos (by simp [e.1,e.2])]
    rfl
  ·have ea:atKey (([x.2.1,x.2.2],a,Value.int x.1 t)::xs) [c,l]=atKey xs [c,l]:=by
    unfold atKey
    rw [List.find?_cons_of_neg (by simpa using e)]
   rw [ea,List.find?_cons_of_neg (by simpa using e)]
   exact ih
theorem cgo_ge:∀ (ps:List (Int×Int)) (c b:Int),ps.Pairwise (fun p q=>plt p q=true)→(∀ p∈ps,b≤p.1)→0≤c→∀ x∈cgo c b ps,b≤x.2.2∧(x.2.2=b→c≤x.2.1)
 | [],_,_,_,_,_,_,hx=>nomatch hx
 | (l,s)::r,c,b,hs,hb,hc,x,hx=>by
  have hs':=List.pairwise_cons.mp hs
  have hbl:=hb _ (.head _)
  dsimp only at hbl
  have hp:(1:Int)≤2 ^ (l-b).toNat:=by
   have:(1:Nat)≤2 ^ (l-b).toNat:=Nat.pow_pos (by decide)
   exact_mod_cast this
  have h2:c≤c*2 ^ (l-b).toNat:=by
   have:=Int.mul_le_mul_of_nonneg_left hp hc
   exact far [] [_,_] (.d Y0 Y1) [.d (.u Y0 1) Y1] [1,1] (fm this fz) rfl
  rcases List.mem_cons.mp hx with rfl | hx
  ·exact ⟨hbl,fun _=>h2⟩
  ·have hl:∀ p∈r,l≤p.1:=fun p hp=>by
    have:=hs'.1 p hp
    simp only [plt,decide_eq_true_eq] at this
    lia
   have ih:=cgo_ge r (c*2 ^ (l-b).toNat+1) l hs'.2 hl (by exact far [] [_,_] (.d (.z 0) (.q Y0 (.z 1))) [.d (.z 0) Y1,.d Y1 Y0] [1,1,1] (fm hc (fm h2 fz)) rfl) x hx
   refine ⟨by exact far [] [_,_,_] (.d Y0 Y1) [.d Y0 Y2,.d Y2 Y1] [1,1,1] (fm hbl (fm ih.1 fz)) rfl,fun e=>?_⟩
   have:=ih.2 (by exact Int.le_antisymm (far [] [_,_,_] (.d Y0 Y1) [.f Y0 Y2,.d Y2 Y1] [1,1,1] (fm e (fm hbl fz)) rfl) (far [] [_,_] (.d Y0 Y1) [.d Y0 Y1] [1,1] (fm ih.1 fz) rfl))
   exact far [] [_,_,_] (.d Y0 Y1) [.d Y0 Y2,.d (.q Y2 (.z 1)) Y1] [1,1,1] (fm h2 (fm this fz)) rfl
theorem cgo_keys:∀ (ps:List (Int×Int)) (c b:Int),ps.Pairwise (fun p q=>plt p q=true)→(∀ p∈ps,b≤p.1)→0≤c→((cgo c b ps).map (·.2)).Nodup
 | [],_,_,_,_,_=>List.nodup_nil
 | (l,s)::r,c,b,hs,hb,hc=>by
  have hs':=List.pairwise_cons.mp hs
  have hl:∀ p∈r,l≤p.1:=fun p hp=>by
   have:=hs'.1 p hp
   simp only [plt,decide_eq_true_eq] at this
   lia
  have hc':0≤c*2 ^ (l-b).toNat:=Int.mul_nonneg hc (Int.pow_nonneg (by decide))
  simp only [cgo,List.map_cons,List.nodup_cons]
  refine ⟨fun hm=>?_,cgo_keys r _ l hs'.2 hl (by exact far [] [_] (.d (.z 0) (.q Y0 (.z 1))) [.d (.z 0) Y0] [1,1] (fm hc' fz) rfl)⟩
  obtain ⟨x,hx,e⟩:=List.mem_map.mp hm
  have:=cgo_ge r (c*2 ^ (l-b).toNat+1) l hs'.2 hl (by exact far [] [_] (.d (.z 0) (.q Y0 (.z 1))) [.d (.z 0) Y0] [1,1] (fm hc' fz) rfl) x hx
  rw [e] at this
  have:=this.2 rfl
  dsimp only at this
  omega
theorem codes_keys (lens:List Int):((codes lens).map (·.2)).Nodup:=cgo_keys _ _ _ (osy_sorted lens) (fun p hp=>by
 obtain ⟨j,hj,rfl⟩:=osy_mem hp
 exact Int.le_of_lt (used_pos hj)) (Int.le_refl _)
theorem mxl_take {cs:List (Int×Int×Int)} {i:Nat} {x:Int×Int×Int} (h:cs[i]?=some x):mxl (cs.take (i+1))=max (mxl (cs.take i)) x.2.2:=by
 unfold mxl
 rw [List.take_add_one,h,List.foldl_append]; rfl
noncomputable abbrev dcr (sd:Addr) (m:Int):OS:=.attrs [("symbols",.ref sd),("longest",.int m)]
end
section
theorem mxl_nonneg (cs:List (Int×Int×Int)):0≤mxl cs:=by
 unfold mxl
 have:∀ (cs:List (Int×Int×Int)) (m:Int),0≤m→0≤cs.foldl (fun m x=>max m x.2.2) m:=by
  intro cs
  induction cs with
  | nil=>intro m h; exact h
  | cons x cs ih=>intro m h; exact ih _ (by show 0≤max m x.2.2; lia)
 exact this cs 0 (Int.le_refl _)
theorem symL_none {cs:List (Int×Int×Int)} (k:Nat) (c l:Int):symL cs k c l []=none:=by cases k <;> rfl
theorem symL_cons (cs:List (Int×Int×Int)) (k:Nat) (c l b:Int) (r:List Int):symL cs (k+1) c l (b::r)=match cs.find? (fun x=>decide (x.2.1=c*2+b∧x.2.2=l+1)) with
  | some x=>some (x.1,r)
  | none=>symL cs k (c*2+b) (l+1) r:=rfl
section
variable {B:Bs} {nm:NM} {n:Nat} {l:Fr} {own:Led} {K:KE} {c:Addr} {lens:List Int}
theorem dec_new {C:Cx B nm (n+9)} (hs:List (List Int×Addr×Value)→Led→Hs) (hz:lens.length≤900) (h64:(used lens).length<64) (hl:∀ i,lens.getD i 0≤64) (hok:complete lens=true→CodesOk lens) (hr:¬ complete lens=true→C.rz l∧Sub C.X own)
  (hK:complete lens=true→∀ x dx sd xs G,TD G xs (codes lens)→K (.ref x) ((x,.inst 306 dx)::(dx,dcr sd (mxl (codes lens)))::(sd,tdic B xs)::(c,ilst lens)::(own++G)) (hs xs G)):CallP C l ((c,ilst lens)::own) (.ref 306) [.ref c] K:=by
 refine CallP.make (f:=296) (by k_is) (by k_is) (by k_is) fun x dx C hC1 hC2=>?_
 refine' fnF (¬ complete lens=true) own [] ["self","lengths"] ["symbol","pair"] (fun h=>⟨hC1 (hr h).1,hC2 _ (hr h).2⟩) ?fa ?fb ?fc rfl ?fe (fun D hz' hX N hN=>?_)
 (case fa=>k_is); (case fb=>k_is); (case fc=>exact fun _ _ _=>BindsTo.of_eq rfl); (case fe=>rfl)
 conv=>whnf
 refine CallP.sub (Sub.ix [3] 0 _) (complete_spec [] hz h64 hl ?_)
 conv=>whnf
 refine ⟨fun hc=>?_,fun hc=>?_⟩
 ·conv=>whnf
  refine EvP.tdict [.i 3,.i 4,.i 3,.i 4] fun sd=>?_
  conv=>whnf
  refine ⟨⟨rfl,rfl⟩,?_⟩
  conv=>whnf
  refine ⟨⟨rfl,rfl⟩,?_⟩
  conv=>whnf
  refine StP.for_ [] (fun _=>rfl) ?_
  conv=>whnf
  refine CallP.sub (Sub.ix [1] 0 _) (codes_spec (fun _ _=>[.m]) hz h64 hl (hok hc) fun d kvs G hcd=>?_)
  conv=>whnf
  refine ⟨⟨_,.head _⟩,?_⟩
  conv=>whnf
  refine CallP.forItems (ι:=List (List Int×Addr×Value)×Int×VS×VS) 0 rfl (fun i k v hv=>?_) (fun i z=>TD G z.1 ((codes lens).take i)∧z.2.1=mxl ((codes lens).take i)) (fun z=>[("self",.ref x),("lengths",.ref c),("symbol",z.2.2.1),("pair",z.2.2.2)])
   (fun ep z=>(d,idicE B kvs ep)::(c,ilst lens)::(sd,tdic B z.1)::(C.env.locals,.ns l)::(x,.inst 306 dx)::(dx,dcr sd z.2.1)::(own++G)) ([],0,.any,.any) (fun i z=>[.i 0,.i 6,.i 7]) (fun _=>[]) rfl (fun ep=>Sub.refl _) (fun _ _ _ _=>.head _) ⟨.nil,rfl⟩
   (fun ep i z k a1 a hv hI ia N2 hN2=>?_) (fun ep z hI=>?_)
  ·obtain ⟨a1,y,rfl,-⟩:=hcd.at hv
   exact ⟨a1,rfl⟩
  ·obtain ⟨a1',y,e,hy,rfl,hm1⟩:=hcd.at hv
   cases e
   have hm2:(a1,OS.tup [.int y.2.1,.int y.2.2])∈own++G:=List.mem_append_right _ hm1
   have hmx:=mxl_take hy
   have htk:(codes lens).take (i+1)=(codes lens).take i++[y]:=by rw [List.take_add_one,hy]; rfl
   have hnk:atKey z.1 [y.2.1,y.2.2]=none:=(hI.1.find _ _).1 (List.find?_eq_none.mpr fun w hw q=>by
    have hn:=codes_keys lens
    rw [← List.take_append_drop (i+1) (codes lens),htk,List.map_append,List.map_append] at hn
    exact (List.nodup_append.mp (List.nodup_append.mp hn).1).2.2 w.2 (List.mem_map_of_mem hw) y.2 (.head _) (Prod.ext (of_decide_eq_true q).1 (of_decide_eq_true q).2))
   have hcl:z.1.length≤1000000:=by
    have h1:=hI.1.length
    have h2:=used_len lens
    have h3:(codes lens).length=_:=cgo_len _ _ _
    rw [osy_len] at h3
    rw [List.length_take] at h1
    exact far [_,_,_,_] [] (.a Z0 (.n 1000000)) [.c Z0 Z1,.c Z2 Z3,.b Z3 (.n 64),.a Z1 Z2] [1,1,1,1,1] (fm h1 (fm h3 (fm h64 (fm (Nat.min_le_right _ _) fz)))) rfl
   conv=>whnf
   refine ⟨rfl,?_⟩
   conv=>whnf
   refine ⟨⟨rfl,rfl⟩,?_⟩
   conv=>whnf
   refine SiP.tdict [.i 6,.i 7,.t [.int y.2.1,.int y.2.2],.i 6,.i 7] 4 rfl (hI.1.keys.mono fun p hp=>.tail _ (.tail _ (.tail _ (.tail _ (.tail _ (.tail _ (.tail _ (.tail _ (List.mem_append_right _ hp))))))))) (.tail _ (.tail _ (.tail _ (.tail _ (.tail _ (.tail _ (.tail _ (.tail _ hm2)))))))) hcl hnk (fun tk=>?_)
   conv=>whnf
   refine ⟨⟨rfl,rfl⟩,?_⟩
   conv=>whnf
   refine ⟨.tail _ (.tail _ (.tail _ (.tail _ (.tail _ (.tail _ (.tail _ (.tail _ hm2))))))),?_⟩
   conv=>whnf
   refine ⟨⟨rfl,rfl⟩,?_⟩
   conv=>whnf
   exact hN2 (z.1++[([y.2.1,y.2.2],a1,.int y.1 tk)],max z.2.1 y.2.2,.int y.1,.ref a1) _ ⟨htk ▸ hI.1.snoc hm1,hI.2 ▸ hmx.symm⟩ (.skip (.refl _))
  ·have hI1:=hI.1
   have hK:=hK hc x dx sd z.1 G
   rw [hcd.length,List.take_length] at hI
   exact hN .none _ (hs z.1 G) _ (hI.2 ▸ hK hI.1) (Sub.ix [3,3,3,2,1] 1 _)
 ·conv=>whnf
  refine StP.raise [] (hz' hc) rfl rfl ?_
  conv=>whnf
  exact hX _ (Sub.ix [1] 3 _)
end
section
variable {B:Bs} {nm:NM} {n:Nat} {l:Fr} {own:Led} {K:KE} {x dx sd y dy d:Addr} {ns:List Int} {pos:Nat} {xs:List (List Int×Addr×Value)} {cs:List (Int×Int×Int)}
theorem symbol_spec {C:Cx B nm (n+7)} (hs:Hs) (hxs:TD own xs cs) (hm:mxl cs≤64) (hz:ns.length<1000000) (hb:Bytes ns) (hp:pos≤8*ns.length) (hr:symL cs (mxl cs).toNat 0 0 ((bitsL ns).drop pos)=none→C.rz l∧Sub C.X ((d,ilst ns)::own))
  (hK:∀ sy p,symL cs (mxl cs).toNat 0 0 ((bitsL ns).drop pos)=some (sy,(bitsL ns).drop p)→pos<p→p≤8*ns.length→K (.int sy) ((y,.inst 245 dy)::(dy,rdr d p)::(d,ilst ns)::(x,.inst 306 dx)::(dx,dcr sd (mxl cs))::(sd,tdic B xs)::own) hs):
  CallP C l ((y,.inst 245 dy)::(dy,rdr d pos)::(d,ilst ns)::(x,.inst 306 dx)::(dx,dcr sd (mxl cs))::(sd,tdic B xs)::own) (.ref 303) [.ref x,.ref y] K:=by
 have hm0:=mxl_nonneg cs
 refine' fnK (symL cs (mxl cs).toNat 0 0 ((bitsL ns).drop pos)=none) ((d,ilst ns)::own) [] ["self","reader"] ["code","length"] hr ?fa ?fb ?fc rfl ?fe (fun D hz' hX N hN=>?_)
 (case fa=>k_is); (case fb=>k_is); (case fc=>exact fun _ _ _=>BindsTo.of_eq rfl); (case fe=>rfl)
 conv=>whnf
 refine StP.for_ [.i 4,.i 5] (fun _=>rfl) ?_
 conv=>whnf
 refine ⟨⟨rfl,rfl⟩,?_⟩
 conv=>whnf
 refine CallP.sub (Sub.ix [1,1,1,1,1,1] 0 _) (CallP.range2 [] fun r=>?_)
 refine FoP.rng (ι:=Nat×Int×VS) (mxl cs).toNat (fun i=>((i+1:Nat):Int)) (fun i c=>c.1=pos+i∧c.1≤8*ns.length∧symL cs (mxl cs).toNat 0 0 ((bitsL ns).drop pos)=symL cs ((mxl cs).toNat-i) c.2.1 (i:Nat) ((bitsL ns).drop c.1)) (fun c=>[("self",.ref x),("reader",.ref y),("code",.int c.2.1),("length",c.2.2)])
  (fun c=>(y,.inst 245 dy)::(dy,rdr d c.1)::(d,ilst ns)::(x,.inst 306 dx)::(dx,dcr sd (mxl cs))::(sd,tdic B xs)::(C.env.locals,.ns l)::own) (pos,0,.any) (fun _ _=>[.i 1,.i 2]) (fun _=>[.i 0,.i 1]) (by lia) (by lia) (fun i=>by exact Int.le_antisymm (far [_] [] (.d (.q (.z 1) X0) (.t (.p Z0 (.n 1)))) [] [1] fz rfl) (far [_] [] (.d (.t (.p Z0 (.n 1))) (.q (.z 1) X0)) [] [1] fz rfl)) ⟨rfl,hp,rfl⟩ (fun i c hi hI ia N2 hN2=>?_) (fun c hI=>?_)
 ·have e:(mxl cs).toNat-i=((mxl cs).toNat-(i+1))+1:=by clear hI; exact Nat.le_antisymm (far [_,_,_,_] [] (.a Z0 (.p Z1 (.n 1))) [.a Z2 (.p Z1 (.p Z3 (.n 1))),.c (.p Z0 Z3) Z2] [1,1,1] (fm (ns1 _ _) (fm (ns2 (far [_,_] [] (.a Z0 Z1) [.b Z0 Z1] [1,1] (fm hi fz) rfl)) fz)) rfl) (far [_,_,_,_] [] (.a (.p Z0 (.n 1)) Z1) [.a Z2 (.p Z1 Z3),.c (.p Z0 (.p Z3 (.n 1))) Z2] [1,1,1] (fm (ns1 _ _) (fm (ns2 (far [_,_] [] (.a (.p Z0 (.n 1)) Z1) [.b Z0 Z1] [1,1] (fm hi fz) rfl)) fz)) rfl)
  have hv:=hI.2.2
  rw [e] at hv
  conv=>whnf
  refine ⟨IntMulOk.of_right (intBits_le_64 (by decide) (by decide)),?_⟩
  conv=>whnf
  refine ⟨⟨rfl,rfl⟩,?_⟩
  conv=>whnf
  refine CallP.sub (Sub.ix [1,1,1] 0 _) (bit_spec [.i 5,.i 6] hz hb (fun h=>⟨hz' (by rw [hv,bitsL_nil h,symL_none]),hX _ (Sub.ix [5,0] 4 _)⟩) fun hlt=>?_)
  rw [bitsL_cons hlt,symL_cons] at hv
  have hfd:=hxs.find (c.2.1*2+bitAt ns c.1) ((i+1:Nat):Int)
  conv=>whnf
  intro a
  conv=>whnf
  refine ⟨⟨rfl,rfl⟩,?_⟩
  conv=>whnf
  have hm2:∀ {q:Led},(sd,tdic B xs)∈(a,OS.tup [VS.int (c.2.1*2+bitAt ns c.1),VS.int ((i+1:Nat):Int)])::(y,OS.inst 245 dy)::(dy,rdr d (c.1+1))::(d,ilst ns)::(ia,(itrRange B 1 1 (mxl cs).toNat).at_ (i+1))::(x,.inst 306 dx)::(dx,dcr sd (mxl cs))::(sd,tdic B xs)::q:=.tail _ (.tail _ (.tail _ (.tail _ (.tail _ (.tail _ (.tail _ (.head _)))))))
  have hk:∀ p∈own,p∈(a,OS.tup [VS.int (c.2.1*2+bitAt ns c.1),VS.int ((i+1:Nat):Int)])::(y,OS.inst 245 dy)::(dy,rdr d (c.1+1))::(d,ilst ns)::(ia,(itrRange B 1 1 (mxl cs).toNat).at_ (i+1))::(x,.inst 306 dx)::(dx,dcr sd (mxl cs))::(sd,tdic B xs)::(C.env.locals,.ns l)::own:=fun p hp=>List.mem_append_right [_,_,_,_,_,_,_,_,_] hp
  refine CoP.tdinE [.b [.i 5,.i 6] []] hm2 (hxs.keys.mono hk) (.head _) (fun p hp=>?_) (fun hp=>?_)
  ·obtain ⟨z,a2,t,hf,hat⟩:∃ z a2 t,cs.find? (fun x=>decide (x.2.1=c.2.1*2+bitAt ns c.1∧x.2.2=((i+1:Nat):Int)))=some z∧atKey xs [c.2.1*2+bitAt ns c.1,((i+1:Nat):Int)]=some (a2,.int z.1 t):=by
    cases hf:cs.find? (fun x=>decide (x.2.1=c.2.1*2+bitAt ns c.1∧x.2.2=((i+1:Nat):Int))) with
    | some z=>have:=hfd.2 z hf; exact ⟨z,this.choose,this.choose_spec.choose,rfl,this.choose_spec.choose_spec⟩
    | none=>rw [hfd.1 hf] at hp; cases hp
   have hK:=hK z.1 (c.1+1) (hv.trans (by rw [← Int.natCast_succ,Nat.succ_eq_add_one,hf])) (by rw [hI.1]; exact far [_,_] [] (.b Z0 (.p (.p Z0 Z1) (.n 1))) [] [1] fz rfl) hlt
   conv=>whnf
   refine ⟨⟨rfl,rfl⟩,?_⟩
   conv=>whnf
   intro a'
   conv=>whnf
   refine ItP.tdict rfl [] (.tail _ hm2) (hxs.keys.mono fun p hp=>.tail _ (hk p hp)) (.head _) hat ?_
   conv=>whnf
   exact hN _ _ hs _ hK (Sub.ix [9,2,2,2,3,3,3] 3 _)
  ·conv=>whnf
   exact hN2 (c.1+1,c.2.1*2+bitAt ns c.1,.int ((i+1:Nat):Int)) _ ⟨congrArg (·+1) hI.1,hlt,hv.trans (by
    rw [← Int.natCast_succ,Nat.succ_eq_add_one]
    cases hf:cs.find? (fun x=>decide (x.2.1=c.2.1*2+bitAt ns c.1∧x.2.2=((i+1:Nat):Int))) with
    | some z=>have:=hfd.2 z hf; rw [this.choose_spec.choose_spec] at hp; cases hp
    | none=>rfl)⟩ (Sub.ix [4,1,1,1] 1 _)
 ·rw [Nat.sub_self] at hI
  conv=>whnf
  refine StP.raise [.i 0,.i 1] (hz' hI.2.2) rfl rfl ?_
  conv=>whnf
  refine ⟨⟨rfl,rfl⟩,?_⟩
  conv=>whnf
  exact hX _ (Sub.ix [6,2] 5 _)
end
end
section
noncomputable def rdLenGo (m:Int):Nat→List Int→Int→List Int→Option (List Int×List Int)
 | 0,lens,_,bs=>some (lens,bs)
 | k+1,lens,sy,bs=>match numL bs 0 1 with
  | none=>none
  | some (gap,bs1)=>match numL bs1 0 1 with
   | none=>none
   | some (len,bs2)=>if gap<1∨sy+gap≥m∨len<1∨len>64 then none else rdLenGo m k (lens.set (sy+gap).toNat len) (sy+gap) bs2
noncomputable def rdLen (m:Nat) (bs:List Int):Option (List Int×List Int):=match numL bs 0 1 with
 | none=>none
 | some (n,bs1)=>if n<0∨n>bs1.length then none else rdLenGo m n.toNat (List.replicate m 0) (-1) bs1
theorem numL_drop:∀ (bs:List Int) (t w:Int) {v:Int} {r:List Int},numL bs t w=some (v,r)→∃ k,1≤k∧k≤bs.length∧r=bs.drop k
 | [],_,_,_,_,h=>by simp [numL] at h
 | g::l,t,w,v,r,h=>by
  unfold numL at h
  split at h
  ·obtain ⟨k,h1,h2,h3⟩:=numL_drop l _ _ h
   exact ⟨k+1,by lia,by simpa using h2,by simpa using h3⟩
  ·split at h
   ·cases h
   ·injection h with h
    injection h with _ h
    exact ⟨1,by lia,by simp,by simp [h]⟩
section
variable {B:Bs} {nm:NM} {n:Nat} {l:Fr} {own:Led} {K:KE} {x dx d:Addr} {ns:List Int} {at_:Nat}
theorem read_lengths_spec {C:Cx B nm (n+12)} {m:Nat} (hs:Hs) (hz:ns.length<1000000) (hm:m≤900) (hb:Bytes ns) (hr:rdLen m (ns.drop at_)=none→C.rz l∧Sub C.X ((d,ilst ns)::own))
  (hK:∀ lens a' r,rdLen m (ns.drop at_)=some (lens,ns.drop a')→at_≤a'→a'≤ns.length→K (.ref r) ((r,ilst lens)::(x,.inst 168 dx)::(dx,br d a')::(d,ilst ns)::own) hs):
  CallP C l ((x,.inst 168 dx)::(dx,br d at_)::(d,ilst ns)::own) (.ref 386) [.ref x,.int m] K:=by
 refine' fnK (rdLen m (ns.drop at_)=none) ((d,ilst ns)::own) [.i 0] ["reader","symbols"] ["lengths","symbol","turn","gap","length"] hr ?fa ?fb ?fc rfl ?fe (fun D hz' hX N hN=>?_)
 (case fa=>k_is); (case fb=>k_is); (case fc=>exact fun _ _ _=>BindsTo.of_eq rfl); (case fe=>rfl)
 conv=>whnf
 intro b
 conv=>whnf
 refine ⟨⟨rfl,by lia,by lia⟩,fun le=>?_⟩
 conv=>whnf
 refine StP.for_ [.i 3,.i 4] (fun _=>rfl) ?_
 conv=>whnf
 refine ⟨⟨rfl,rfl⟩,?_⟩
 conv=>whnf
 refine CallP.sub (Sub.ix [3,3,3] 0 _) (br_count [] hz hb (fun hge=>⟨hz' ?_,hX _ (Sub.ix [3,0] 2 _)⟩) fun v a' h1 h2 h3 h4 h5=>?_)
 ·unfold rdLen
  cases hn:numL (ns.drop at_) 0 1 with
  | none=>rfl
  | some p=>
   obtain ⟨k,k1,k2,k3⟩:=numL_drop _ _ _ hn
   rw [List.drop_drop] at k3
   rw [List.length_drop] at k2
   have:=hge p.1 (at_+k) (by rw [hn,← k3]) (by lia)
   refine if_pos ?_
   rw [k3,List.length_drop]
   omega
 have e0:rdLen m (ns.drop at_)=rdLenGo m v.toNat (List.replicate m 0) (-1) (ns.drop a'):=by
  unfold rdLen
  rw [h1]
  refine if_neg ?_
  rw [List.length_drop]
  lia
 conv=>whnf
 refine CallP.sub (Sub.ix [0,0,0,0] 1 _) (CallP.range1 [] fun r=>?_)
 refine FoP.rng (ι:=List Int×Int×Nat×VS×VS×VS) v.toNat (fun i=>(i:Nat)) (fun i c=>rdLen m (ns.drop at_)=rdLenGo m (v.toNat-i) c.1 c.2.1 (ns.drop c.2.2.1)∧at_≤c.2.2.1∧c.2.2.1≤ns.length∧c.1.length=m∧-1≤c.2.1) (fun c=>[("reader",.ref x),("symbols",.int m),("lengths",.ref le),("symbol",.int c.2.1),("turn",c.2.2.2.1),("gap",c.2.2.2.2.1),("length",c.2.2.2.2.2)])
  (fun c=>(x,.inst 168 dx)::(dx,br d c.2.2.1)::(d,ilst ns)::(le,ilst c.1)::(C.env.locals,.ns l)::own) (List.replicate m 0,-1,a',.any,.any,.any) (fun _ _=>[.i 1,.i 2]) (fun _=>[]) (by lia) (by lia) (fun i=>Int.zero_add _) ⟨e0,Nat.le_of_lt h2,h3,List.length_replicate,Int.le_refl _⟩ (fun i c hi hI ia N2 hN2=>?_) (fun c hI=>?_)
 ·have ek:v.toNat-i=(v.toNat-(i+1))+1:=by clear hI; exact Nat.le_antisymm (far [_,_,_,_] [] (.a Z0 (.p Z1 (.n 1))) [.a Z2 (.p Z1 (.p Z3 (.n 1))),.c (.p Z0 Z3) Z2] [1,1,1] (fm (ns1 _ _) (fm (ns2 (far [_,_] [] (.a Z0 Z1) [.b Z0 Z1] [1,1] (fm hi fz) rfl)) fz)) rfl) (far [_,_,_,_] [] (.a (.p Z0 (.n 1)) Z1) [.a Z2 (.p Z1 Z3),.c (.p Z0 (.p Z3 (.n 1))) Z2] [1,1,1] (fm (ns1 _ _) (fm (ns2 (far [_,_] [] (.a (.p Z0 (.n 1)) Z1) [.b Z0 Z1] [1,1] (fm hi fz) rfl)) fz)) rfl)
  have g1:=hI.1
  have f1:at_≤c.2.2.1:=hI.2.1
  have f2:-1≤c.2.1:=hI.2.2.2.2
  have f3:c.1.length=m:=hI.2.2.2.1
  rw [ek] at g1
  conv=>whnf
  refine ⟨⟨rfl,rfl⟩,?_⟩
  conv=>whnf
  refine CallP.sub (Sub.ix [1,1,1] 0 _) (br_number [.i 0,.i 1] hz hb (fun h=>⟨hz' (by rw [g1]; unfold rdLenGo; rw [h]),hX _ (Sub.ix [3,0] 2 _)⟩) fun gap a1 p1 p2 p3=>?_)
  conv=>whnf
  refine ⟨⟨rfl,rfl⟩,?_⟩
  conv=>whnf
  refine br_number [.b [.i 0,.i 1] [.u 4 c.1]] hz hb (fun h=>⟨hz' (by rw [g1]; unfold rdLenGo; rw [p1]; dsimp only; rw [h]),hX _ (Sub.ix [3,0] 2 _)⟩) fun len a2 q1 q2 q3=>?_
  rw [show rdLenGo m ((v.toNat-(i+1))+1) c.1 c.2.1 (ns.drop c.2.2.1)=if gap<1∨c.2.1+gap≥m∨len<1∨len>64 then none else rdLenGo m (v.toNat-(i+1)) (c.1.set (c.2.1+gap).toNat len) (c.2.1+gap) (ns.drop a2) by conv=>(lhs; unfold rdLenGo); rw [p1]; dsimp only; rw [q1]] at g1
  conv=>whnf
  refine IfP.orE (c2:=c.2.1+gap≥m∨len<1∨len>64) (fun h=>?_) (fun n1 ht=>?_)
  ·conv=>whnf
   refine ⟨⟨rfl,rfl⟩,?_⟩
   conv=>whnf
   exact br_fail ⟨hz' (g1.trans (if_pos h)),hX _ (Sub.ix [3,0] 2 _)⟩
  ·conv=>whnf
   refine IfP.orE (c2:=len<1∨len>64) (fun h=>?_) (fun n2 ht=>?_)
   ·have h:=ht h
    conv at h=>whnf
    conv=>whnf
    exact h
   ·conv=>whnf
    refine IfP.orE (c2:=len>64) (fun h=>?_) (fun n3 ht=>?_)
    ·have h:=ht h
     conv at h=>whnf
     conv=>whnf
     exact h
    ·conv=>whnf
     refine ⟨fun h=>?_,fun n4=>?_⟩
     ·have h:=ht h
      conv at h=>whnf
      conv=>whnf
      exact h
     ·conv=>whnf
      refine ⟨⟨by exact far [] [_,_] (.d (.z 0) (.q Y0 Y1)) [.d (.z (-1)) Y0,.g (.e Y1 (.z 1))] [1,1,1] (fm f2 (fm n1 fz)) rfl,by exact far [_,_] [_,_] (.e (.q Y0 Y1) X0) [.c Z0 Z1,.g (.d X1 (.q Y0 Y1))] [1,-1,1] (fm f3 (fm n2 fz)) rfl,by exact far [_,_] [] (.b Z0 (.n 1000000)) [.a Z1 (.n 900),.c Z0 Z1] [1,1,1] (fm hm (fm f3 fz)) rfl⟩,?_⟩
      conv=>whnf
      refine ⟨rfl,?_⟩
      conv=>whnf
      exact hN2 (c.1.set (c.2.1+gap).toNat len,c.2.1+gap,a2,.int (i:Nat),.int gap,.int len) _ ⟨g1.trans (if_neg (by lia)),show at_≤a2 by exact far [_,_,_,_] [] (.a Z0 Z1) [.a Z0 Z2,.b Z2 Z3,.b Z3 Z1] [1,1,1,1] (fm f1 (fm p2 (fm q2 fz))) rfl,q3,List.length_set.trans f3,show -1≤c.2.1+gap by exact far [] [_,_] (.d (.z (-1)) (.q Y0 Y1)) [.d (.z (-1)) Y0,.g (.e Y1 (.z 1))] [1,1,1] (fm f2 (fm n1 fz)) rfl⟩ (Sub.ix [3] 0 _)
 ·have g1:=hI.1
  rw [Nat.sub_self] at g1
  have hK:=hK c.1 c.2.2.1 le g1 hI.2.1 hI.2.2.1
  conv=>whnf
  exact hN _ _ hs _ hK (Sub.ix [4,3] 0 _)
end
noncomputable def cpy:Nat→List Int→Nat→List Int
 | 0,out,_=>out
 | k+1,out,d=>cpy k (out++[out.getD (out.length-d) 0]) d
theorem cpy_length:∀ (k:Nat) (out:List Int) (d:Nat),(cpy k out d).length=out.length+k
 | 0,_,_=>rfl
 | k+1,out,d=>by unfold cpy; rw [cpy_length k,List.length_append,List.length_singleton,Nat.add_assoc,Nat.add_comm 1]
section
variable {B:Bs} {nm:NM} {n:Nat} {l:Fr} {own:Led} {K:KE} {y dy d o:Addr} {ns os:List Int} {pos:Nat}
theorem read_tail_spec {C:Cx B nm (n+10)} {w:Int} (k:Nat) (hs:Hs) (ew:w=k+1) (hw:k≤1000) (hz:ns.length<1000000) (hb:Bytes ns) (hp:pos≤8*ns.length) (hr:rdB ((bitsL ns).drop pos) k 0=none→C.rz l∧Sub C.X ((d,ilst ns)::own))
  (hK:∀ v,rdB ((bitsL ns).drop pos) k 0=some (v,(bitsL ns).drop (pos+k))→pos+k≤8*ns.length→K (.int (2 ^ k+v)) ((y,.inst 245 dy)::(dy,rdr d (pos+k))::(d,ilst ns)::own) hs):
  CallP C l ((y,.inst 245 dy)::(dy,rdr d pos)::(d,ilst ns)::own) (.ref 393) [.ref y,.int w] K:=by
 have ek:w-1=(k:Nat):=by exact Int.le_antisymm (far [_] [_] (.d (.s Y0 (.z 1)) X0) [.f Y0 (.q X0 (.z 1))] [1,1] (fm ew fz) rfl) (far [_] [_] (.d X0 (.s Y0 (.z 1))) [.f Y0 (.q X0 (.z 1))] [1,-1] (fm ew fz) rfl)
 refine' fnK (rdB ((bitsL ns).drop pos) k 0=none) ((d,ilst ns)::own) [.v (k:Nat),.i 1,.i 2,.v (k:Nat)] ["bits","width"] [] hr ?fa ?fb ?fc rfl ?fe (fun D hz' hX N hN=>?_)
 (case fa=>k_is); (case fb=>k_is); (case fc=>exact fun _ _ _=>BindsTo.of_eq rfl); (case fe=>rfl)
 conv=>whnf
 refine ⟨ek,?_⟩
 conv=>whnf
 refine ⟨⟨by lia,by lia,by decide⟩,?_⟩
 conv=>whnf
 refine ⟨⟨rfl,rfl⟩,?_⟩
 conv=>whnf
 refine ⟨ek,?_⟩
 conv=>whnf
 rw [← Int.one_mul (2 ^ k:Int)] at hK
 refine CallP.sub (Sub.ix [1,1,1,0] 0 _) (bitr_bits [] hz hb (by exact nD hw rfl) hp (fun h=>⟨hz' h,hX _ (Sub.ix [1,0] 0 _)⟩) fun v h1 h2=>?_)
 conv=>whnf
 exact hN _ _ hs _ (hK v h1 h2) (Sub.ix [3,0,0,0] 0 _)
theorem copy_back_spec {C:Cx B nm (n+6)} {k' dist' m:Int} (k dist:Nat) (hs:Hs) (hk':k'=k) (hd':dist'=dist) (hd:1≤dist) (hm:m≤100000) (hk:k<100000000) (hz:os.length≤100000) (hr:¬ (dist≤os.length∧((os.length:Int)+k≤m))→C.rz l∧Sub C.X own)
  (hK:dist≤os.length→((os.length:Int)+k≤m)→K .none ((o,ilst (cpy k os dist))::own) hs):
  CallP C l ((o,ilst os)::own) (.ref 400) [.ref o,.int k',.int dist',.int m] K:=by
 subst hk' hd'
 refine' fnK (¬ (dist≤os.length∧((os.length:Int)+k≤m))) own [.l os,.l os,.b [.l os] []] ["out","length","distance","most"] ["turn"] hr ?fa ?fb ?fc rfl ?fe (fun D hz' hX N hN=>?_)
 (case fa=>k_is); (case fb=>k_is); (case fc=>exact fun _ _ _ _ _=>BindsTo.of_eq rfl); (case fe=>rfl)
 conv=>whnf
 refine ⟨⟨(at_mem (j:=1) rfl),by exact nD hz rfl⟩,?_⟩
 conv=>whnf
 refine IfP.orE (c2:=(os.length:Int)+k>m) (fun h=>?_) (fun n1 ht=>?_)
 ·conv=>whnf
  refine StP.raise [.l os] (hz' fun h2=>h.elim (fun q=>absurd h2.1 (by lia)) (fun q=>absurd h2.2 (by lia))) rfl rfl ?_
  conv=>whnf
  refine ⟨⟨(at_mem (j:=1) rfl),by exact nD hz rfl⟩,?_⟩
  conv=>whnf
  exact hX _ (Sub.ix [0] 1 _)
 ·conv=>whnf
  refine ⟨⟨(at_mem (j:=1) rfl),by exact nD hz rfl⟩,?_⟩
  conv=>whnf
  refine ⟨fun h=>?_,fun n2=>?_⟩
  ·have h:=ht h
   conv at h=>whnf
   conv=>whnf
   exact h
  ·conv=>whnf
   refine StP.for_ [] (fun _=>rfl) ?_
   conv=>whnf
   refine CallP.sub (Sub.ix [1,0] 0 _) (CallP.range1 [] fun r=>?_)
   refine FoP.rng (ι:=List Int×VS) k (fun i=>(i:Nat)) (fun i c=>cpy k os dist=cpy (k-i) c.1 dist∧c.1.length=os.length+i) (fun c=>[("out",.ref o),("length",.int k),("distance",.int dist),("most",.int m),("turn",c.2)])
    (fun c=>(o,ilst c.1)::(C.env.locals,.ns l)::own) (os,.any) (fun _ c=>[.u 1 c.1,.l c.1,.l c.1]) (fun _=>[]) (by lia) (by rfl) (fun i=>Int.zero_add _) ⟨rfl,rfl⟩ (fun i c hi hI ia N2 hN2=>?_) (fun c hI=>?_)
   ·have f1:c.1.length=os.length+i:=hI.2
    have ek:k-i=(k-(i+1))+1:=by exact Nat.le_antisymm (far [_,_,_,_] [] (.a Z0 (.p Z1 (.n 1))) [.a Z2 (.p Z1 (.p Z3 (.n 1))),.c (.p Z0 Z3) Z2] [1,1,1] (fm (ns1 _ _) (fm (ns2 (far [_,_] [] (.a Z0 Z1) [.b Z0 Z1] [1,1] (fm hi fz) rfl)) fz)) rfl) (far [_,_,_,_] [] (.a (.p Z0 (.n 1)) Z1) [.a Z2 (.p Z1 Z3),.c (.p Z0 (.p Z3 (.n 1))) Z2] [1,1,1] (fm (ns1 _ _) (fm (ns2 (far [_,_] [] (.a (.p Z0 (.n 1)) Z1) [.b Z0 Z1] [1,1] (fm hi fz) rfl)) fz)) rfl)
    have g1:=hI.1
    have e1:(((c.1.length:Nat):Int)-(dist:Nat)).toNat=c.1.length-dist:=by exact Nat.le_antisymm (far [_,_,_,_] [] (.a Z0 Z1) [.a Z2 (.p Z1 Z3),.f X0 (.s X2 X3)] [1,1,1] (fm (ns1 _ _) (fm (it2 (far [_,_,_,_] [] (.d (.z 0) (.s X0 X1)) [.g (.e X2 X1),.c Z0 (.p Z2 Z3)] [1,1,-1] (fm n1 (fm f1 fz)) rfl)) fz)) rfl) (far [_,_,_,_] [] (.a Z0 Z1) [.d (.s X2 X3) X1,.c (.p Z0 Z3) Z2] [1,1,1] (fm (it1 _) (fm (ns2 (far [_,_,_,_] [] (.a Z0 Z1) [.g (.e X2 X0),.c Z1 (.p Z2 Z3)] [1,1,-1] (fm n1 (fm f1 fz)) rfl)) fz)) rfl)
    rw [ek] at g1
    conv=>whnf
    refine ⟨(at_mem (j:=1) rfl),?_⟩
    conv=>whnf
    refine ⟨⟨(at_mem (j:=1) rfl),by exact far [_,_,_,_] [_] (.b Z0 (.n 1000000)) [.d Y0 (.z 100000),.g (.e Y0 (.q X1 X2)),.b Z3 Z2,.c Z0 (.p Z1 Z3)] [1,1,1,1,1] (fm hm (fm n2 (fm hi (fm f1 fz)))) rfl⟩,?_⟩
    conv=>whnf
    refine ⟨⟨(at_mem (j:=1) rfl),by exact far [_,_,_,_] [] (.d (.z 0) (.s X0 X1)) [.g (.e X2 X1),.c Z0 (.p Z2 Z3)] [1,1,-1] (fm n1 (fm f1 fz)) rfl,by exact far [_,_] [] (.e (.s X0 X1) X0) [.a (.n 1) Z1] [1,1] (fm hd fz) rfl,by exact far [_,_,_,_] [_] (.b Z0 (.n 1000000)) [.d Y0 (.z 100000),.g (.e Y0 (.q X1 X2)),.b Z3 Z2,.c Z0 (.p Z1 Z3)] [1,1,1,1,1] (fm hm (fm n2 (fm hi (fm f1 fz)))) rfl⟩,?_⟩
    conv=>whnf
    refine ⟨by exact far [_,_,_,_] [_] (.a Z0 (.n 1000000)) [.d Y0 (.z 100000),.g (.e Y0 (.q X1 X2)),.b Z3 Z2,.c Z0 (.p Z1 Z3)] [1,1,1,1,1] (fm hm (fm n2 (fm hi (fm f1 fz)))) rfl,?_⟩
    conv=>whnf
    refine ⟨rfl,?_⟩
    conv=>whnf
    exact hN2 (c.1++[c.1.getD (((c.1.length:Nat):Int)-(dist:Nat)).toNat 0],.int (i:Nat)) _ ⟨g1.trans (by rw [e1]; rfl),by rw [List.length_append,f1]; rfl⟩ (Sub.refl _)
   ·have hK:=hK (by exact far [_,_] [] (.a Z0 Z1) [.g (.e X1 X0)] [1,1] (fm n1 fz) rfl) (by lia)
    rw [hI.1,Nat.sub_self] at hK
    conv=>whnf
    exact hN _ _ hs _ hK (Sub.ix [1,0] 0 _)
end
end
end Mine
namespace Mine
noncomputable def ksm (g:Int) (ps:List (Int×Int)):Int:=(ps.map fun p=>(2:Int) ^ (g-p.1).toNat).sum
theorem ksum_eq (g:Int) (ps:List (Int×Int)):ksum g ps=ksm g ps:=by
 have:∀ (ps:List (Int×Int)) (t:Int),ps.foldl (fun t p=>t+2 ^ (g-p.1).toNat) t=t+ksm g ps:=by
  intro ps
  induction ps with
  | nil=>intro t; simp [ksm]
  | cons p ps ih=>intro t; rw [List.foldl_cons,ih]; simp [ksm]; exact Int.le_antisymm (far [] [_,_,_] (.d (.q (.q Y0 Y1) Y2) (.q Y0 (.q Y1 Y2))) [] [1] fz rfl) (far [] [_,_,_] (.d (.q Y0 (.q Y1 Y2)) (.q (.q Y0 Y1) Y2)) [] [1] fz rfl)
 unfold ksum
 rw [this]; exact Int.zero_add _
theorem pow_pos2 (n:Nat):(0:Int)<2 ^ n:=Int.pow_pos (by decide)
theorem pow_split {a b:Int} (h0:0≤a) (h:a≤b):(2:Int) ^ b.toNat=2 ^ a.toNat*2 ^ (b-a).toNat:=by
 rw [← Int.pow_add]
 congr 1; exact Nat.le_antisymm (far [_,_,_] [_,_] (.a Z0 (.p Z1 Z2)) [.d Y0 X1,.d (.s Y1 Y0) X2,.f X0 Y1] [1,1,1,1] (fm (it1 _) (fm (it1 _) (fm (it2 (far [] [_,_] (.d (.z 0) Y0) [.d Y1 Y0,.d (.z 0) Y1] [1,1,1] (fm h (fm h0 fz)) rfl)) fz))) rfl) (far [_,_,_] [_,_] (.a (.p Z0 Z1) Z2) [.d Y0 X2,.f X0 Y1,.f X1 (.s Y0 Y1)] [1,1,1,1] (fm (it1 _) (fm (it2 (far [] [_] (.d (.z 0) Y0) [.d (.z 0) Y0] [1,1] (fm h0 fz) rfl)) (fm (it2 (far [] [_,_] (.d (.z 0) (.s Y0 Y1)) [.d Y1 Y0] [1,1] (fm h fz) rfl)) fz))) rfl)
theorem pow_split' {a b g:Int} (h1:a≤b) (h2:b≤g):(2:Int) ^ (g-a).toNat=2 ^ (b-a).toNat*2 ^ (g-b).toNat:=by
 rw [← Int.pow_add]
 congr 1; exact Nat.le_antisymm (far [_,_,_] [_,_,_] (.a Z0 (.p Z1 Z2)) [.d (.s Y0 Y1) X1,.d (.s Y2 Y0) X2,.f X0 (.s Y2 Y1)] [1,1,1,1] (fm (it1 _) (fm (it1 _) (fm (it2 (far [] [_,_,_] (.d (.z 0) (.s Y0 Y1)) [.d Y1 Y2,.d Y2 Y0] [1,1,1] (fm h1 (fm h2 fz)) rfl)) fz))) rfl) (far [_,_,_] [_,_,_] (.a (.p Z0 Z1) Z2) [.d (.s Y0 Y1) X2,.f X0 (.s Y2 Y1),.f X1 (.s Y0 Y2)] [1,1,1,1] (fm (it1 _) (fm (it2 (far [] [_,_] (.d (.z 0) (.s Y0 Y1)) [.d Y1 Y0] [1,1] (fm h1 fz) rfl)) (fm (it2 (far [] [_,_] (.d (.z 0) (.s Y0 Y1)) [.d Y1 Y0] [1,1] (fm h2 fz) rfl)) fz))) rfl)
theorem ksm_nonneg (g:Int):∀ ps:List (Int×Int),0≤ksm g ps
 | []=>Int.le_refl _
 | p::ps=>by
  have:=ksm_nonneg g ps
  have:=pow_pos2 (g-p.1).toNat
  simp only [ksm,List.map_cons,List.sum_cons] at *
  exact far [] [_,_] (.d (.z 0) (.q Y0 Y1)) [.e (.z 0) Y0,.d (.z 0) Y1] [1,1,1] (fm this (fm (by assumption) fz)) rfl
theorem cgo_bd (g:Int):∀ (ps:List (Int×Int)) (c b:Int),ps.Pairwise (fun p q=>plt p q=true)→(∀ p∈ps,b≤p.1∧p.1≤g)→0≤c→0≤b→(ps≠[]→c*2 ^ (g-b).toNat+ksm g ps≤2 ^ g.toNat)→
  ∀ x∈cgo c b ps,0≤x.2.1∧x.2.1<2 ^ x.2.2.toNat
 | [],_,_,_,_,_,_,_,_,hx=>nomatch hx
 | (l,s)::r,c,b,hs,hb,hc,hb0,hk,x,hx=>by
  have hs':=List.pairwise_cons.mp hs
  have hbl:=hb _ (.head _)
  dsimp only at hbl
  have hk:=hk (by simp)
  simp only [ksm,List.map_cons,List.sum_cons] at hk
  have e1:=pow_split' hbl.1 hbl.2
  have hc':0≤c*2 ^ (l-b).toNat:=Int.mul_nonneg hc (Int.le_of_lt (pow_pos2 _))
  have hkr:=ksm_nonneg g r
  simp only [ksm] at hkr
  have hsum:(c*2 ^ (l-b).toNat+1)*2 ^ (g-l).toNat+(r.map fun p=>(2:Int) ^ (g-p.1).toNat).sum≤2 ^ g.toNat:=by
   rw [Int.add_mul,Int.one_mul,Int.mul_assoc,← e1]
   exact far [] [_,_,_,_] (.d (.q (.q Y0 Y1) Y2) Y3) [.d (.q Y0 (.q Y1 Y2)) Y3] [1,1] (fm hk fz) rfl
  rcases List.mem_cons.mp hx with rfl | hx
  ·refine ⟨hc',?_⟩
   show c*2 ^ (l-b).toNat<2 ^ l.toNat
   have e2:=pow_split (a:=l) (b:=g) (by exact far [] [_,_] (.d (.z 0) Y0) [.d (.z 0) Y1,.d Y1 Y0] [1,1,1] (fm hb0 (fm hbl.1 fz)) rfl) hbl.2
   have hp:=pow_pos2 (g-l).toNat
   rw [e2] at hsum
   have:(c*2 ^ (l-b).toNat+1)*2 ^ (g-l).toNat≤2 ^ l.toNat*2 ^ (g-l).toNat:=by exact far [] [_,_,_] (.d Y0 Y1) [.d (.z 0) Y2,.d (.q Y0 Y2) Y1] [1,1,1] (fm hkr (fm hsum fz)) rfl
   have:=Int.le_of_mul_le_mul_right this hp
   assumption
  ·have hl:∀ p∈r,l≤p.1∧p.1≤g:=fun p hp=>by
    have:=hs'.1 p hp
    simp only [plt,decide_eq_true_eq] at this
    exact ⟨by lia,(hb p (.tail _ hp)).2⟩
   exact cgo_bd g r _ l hs'.2 hl (by exact far [] [_] (.d (.z 0) (.q Y0 (.z 1))) [.d (.z 0) Y0] [1,1] (fm hc' fz) rfl) (by exact far [] [_,_] (.d (.z 0) Y0) [.d (.z 0) Y1,.d Y1 Y0] [1,1,1] (fm hb0 (fm hbl.1 fz)) rfl) (fun _=>hsum) x hx
theorem osy_lo {lens:List Int} {p:Int×Int} (hp:p∈osy lens):0<p.1:=by
 obtain ⟨j,hj,rfl⟩:=osy_mem hp
 exact used_pos hj
theorem complete_ok {lens:List Int} (h:complete lens=true):CodesOk lens:=by
 refine ⟨?_⟩
 unfold complete at h
 split at h
 ·rename_i h2
  have h:=of_decide_eq_true h
  obtain ⟨p,hp⟩:=List.length_eq_one_iff.mp h.1
  rw [hp] at h
  have h1:p.1=1:=by simpa using h.2
  refine cgo_bd 1 (osy lens) 0 0 (osy_sorted lens) (fun q hq=>?_) (Int.le_refl _) (Int.le_refl _) fun _=>?_
  ·rw [hp] at hq
   have:q=p:=by simpa using hq
   subst this
   exact ⟨far [] [_] (.d (.z 0) Y0) [.f Y0 (.z 1)] [1,-1] (fm h1 fz) rfl,far [] [_] (.d Y0 (.z 1)) [.f Y0 (.z 1)] [1,1] (fm h1 fz) rfl⟩
  ·rw [hp]
   simp [ksm,h1]
 ·rename_i h2
  have h:=of_decide_eq_true h
  refine cgo_bd ((osy lens).getD ((osy lens).length-1) (0,0)).1 (osy lens) 0 0 (osy_sorted lens) (fun q hq=>⟨Int.le_of_lt (osy_lo hq),osy_last hq⟩) (Int.le_refl _) (Int.le_refl _) fun _=>?_
  rw [← ksum_eq,h]
  exact far [] [_,_] (.d (.q (.o 0 Y0) Y1) Y1) [] [1] fz rfl
theorem cgo_mem:∀ (ps:List (Int×Int)) (c b:Int) {x:Int×Int×Int},x∈cgo c b ps→(x.2.2,x.1)∈ps
 | [],_,_,_,h=>nomatch h
 | (l,s)::r,c,b,x,h=>by
  rcases List.mem_cons.mp h with rfl | h
  ·exact .head _
  ·exact .tail _ (cgo_mem r _ _ h)
theorem codes_mem {lens:List Int} {x:Int×Int×Int} (h:x∈codes lens):∃ i:Nat,i∈used lens∧x.1=i∧x.2.2=lens.getD i 0:=by
 obtain ⟨i,hi,e⟩:=osy_mem (cgo_mem _ _ _ h)
 simp only [Prod.mk.injEq] at e
 exact ⟨i,hi,e.2,e.1⟩
theorem mxl_le {cs:List (Int×Int×Int)} {m:Int} (h0:0≤m) (h:∀ x∈cs,x.2.2≤m):mxl cs≤m:=by
 unfold mxl
 have:∀ (cs:List (Int×Int×Int)) (a:Int),a≤m→(∀ x∈cs,x.2.2≤m)→cs.foldl (fun m x=>max m x.2.2) a≤m:=by
  intro cs
  induction cs with
  | nil=>intro a ha _; exact ha
  | cons x cs ih=>
   intro a ha hx
   have:=hx x (.head _)
   exact ih _ (by show max a x.2.2≤m; lia) fun y hy=>hx y (.tail _ hy)
 exact this cs 0 h0 h
theorem mxl_codes {lens:List Int} (h:∀ i,lens.getD i 0≤64):mxl (codes lens)≤64:=mxl_le (by lia) fun x hx=>by
 obtain ⟨i,_,_,e⟩:=codes_mem hx
 rw [e]; exact h i
theorem symL_mem {cs:List (Int×Int×Int)}:∀ (k:Nat) (c l:Int) (bs:List Int) {sy:Int} {r:List Int},symL cs k c l bs=some (sy,r)→(∃ x∈cs,x.1=sy)∧r.length<bs.length
 | 0,_,_,_,_,_,h=>by simp [symL] at h
 | _+1,_,_,[],_,_,h=>by simp [symL] at h
 | k+1,c,l,b::bs,sy,r,h=>by
  rw [symL_cons] at h
  split at h
  ·rename_i x hx
   injection h with h
   injection h with h1 h2
   subst h2
   exact ⟨⟨x,List.mem_of_find?_eq_some hx,h1⟩,by simp⟩
  ·obtain ⟨h1,h2⟩:=symL_mem k _ _ bs h
   exact ⟨h1,by simp; exact far [_,_] [] (.b Z0 (.p Z1 (.n 1))) [.b Z0 Z1] [1,1] (fm h2 fz) rfl⟩
theorem rdB_bd:∀ (bs:List Int) (w:Nat) (v:Int) {u:Int} {r:List Int},(∀ b∈bs,b=0∨b=1)→0≤v→rdB bs w v=some (u,r)→v*2 ^ w≤u∧u<(v+1)*2 ^ w∧r.length+w=bs.length
 | bs,0,v,u,r,_,hv,h=>by
  rw [rdB_zero] at h
  injection h with h
  injection h with h1 h2
  subst h1 h2
  simp
  lia
 | [],w+1,v,u,r,_,_,h=>by simp [rdB] at h
 | b::bs,w+1,v,u,r,hb,hv,h=>by
  have h01:=hb b (.head _)
  have ih:=rdB_bd bs w (v*2+b) (fun x hx=>hb x (.tail _ hx)) (by lia) h
  have hp:=pow_pos2 w
  rw [Int.pow_succ]
  have e1:v*(2 ^ w*2)=(v*2)*2 ^ w:=by rw [Int.mul_comm (2 ^ w) 2,Int.mul_assoc]
  have e2:(v+1)*(2 ^ w*2)=(v*2+2)*2 ^ w:=by rw [Int.mul_comm (2 ^ w) 2,← Int.mul_assoc]; congr 1; lia
  rw [e1,e2]
  have m1:(v*2)*2 ^ w≤(v*2+b)*2 ^ w:=Int.mul_le_mul_of_nonneg_right (by lia) (Int.le_of_lt hp)
  have m2:(v*2+b+1)*2 ^ w≤(v*2+2)*2 ^ w:=Int.mul_le_mul_of_nonneg_right (by lia) (Int.le_of_lt hp)
  refine ⟨by exact far [] [_,_,_] (.d Y0 Y1) [.d Y0 Y2,.d Y2 Y1] [1,1,1] (fm m1 (fm ih.1 fz)) rfl,by exact far [] [_,_,_] (.e Y0 Y1) [.d Y2 Y1,.e Y0 Y2] [1,1,1] (fm m2 (fm ih.2.1 fz)) rfl,?_⟩
  simp only [List.length_cons]
  exact Nat.le_antisymm (far [_,_,_] [] (.a (.p Z0 (.p Z1 (.n 1))) (.p Z2 (.n 1))) [.c (.p Z0 Z1) Z2] [1,1] (fm ih.2.2 fz) rfl) (far [_,_,_] [] (.a (.p Z0 (.n 1)) (.p Z1 (.p Z2 (.n 1)))) [.c (.p Z1 Z2) Z0] [1,-1] (fm ih.2.2 fz) rfl)
theorem bitsL_01 (ns:List Int) (p:Nat):∀ b∈(bitsL ns).drop p,b=0∨b=1:=fun b hb=>by
 have:=List.mem_of_mem_drop hb
 obtain ⟨i,_,rfl⟩:=List.mem_map.mp this
 exact bitAt_01 ns i
theorem nodup_le:∀ (a b:List Nat),a.Nodup→(∀ x∈a,x∈b)→a.length≤b.length
 | [],_,_,_=>Nat.zero_le _
 | x::a,b,hn,h=>by
  have hn':=List.nodup_cons.mp hn
  have hx:=h x (.head _)
  have ih:=nodup_le a (b.erase x) hn'.2 fun y hy=>(List.mem_erase_of_ne (fun e:y=x=>hn'.1 (by rw [← e]; exact hy))).mpr (h y (.tail _ hy))
  rw [List.length_erase_of_mem hx] at ih
  have:=List.length_pos_of_mem hx
  simp only [List.length_cons]
  exact far [_,_,_] [] (.a (.p Z0 (.n 1)) Z1) [.a Z0 Z2,.c (.p Z2 (.n 1)) Z1] [1,1,1] (fm ih (fm (ns2 (far [_] [] (.a (.n 1) Z0) [.b (.n 0) Z0] [1,1] (fm this fz) rfl)) fz)) rfl
theorem used_set {lens:List Int} {i:Nat} {v:Int}:(used (lens.set i v)).length≤(used lens).length+1:=by
 rcases Nat.lt_or_ge i lens.length with h | h
 ·have:∀ j∈used (lens.set i v),j∈i::used lens:=fun j hj=>by
   have h1:=used_pos hj
   have h2:=used_lt hj
   rw [List.length_set] at h2
   rw [getD_set h] at h1
   by_cases e:j=i
   ·rw [e]; exact .head _
   ·rw [if_neg e] at h1
    exact .tail _ (List.mem_filter.mpr ⟨List.mem_range.mpr h2,by simpa using h1⟩)
  have:=nodup_le _ _ (used_nodup _) this
  simpa using this
 ·rw [List.set_eq_of_length_le h]; lia
theorem rdLenGo_ok {m:Nat}:∀ (k:Nat) (lens:List Int) (sy:Int) (bs:List Int) {l:List Int} {r:List Int},rdLenGo m k lens sy bs=some (l,r)→lens.length=m→(∀ i,0≤lens.getD i 0∧lens.getD i 0≤64)→-1≤sy→
  l.length=m∧(∀ i,0≤l.getD i 0∧l.getD i 0≤64)∧2*(used l).length+r.length≤2*(used lens).length+bs.length
 | 0,lens,sy,bs,l,r,h,h1,h2,_=>by
  simp only [rdLenGo] at h
  injection h with h
  injection h with e1 e2
  subst e1 e2
  exact ⟨h1,h2,Nat.le_refl _⟩
 | k+1,lens,sy,bs,l,r,h,h1,h2,h3=>by
  unfold rdLenGo at h
  split at h
  ·cases h
  ·rename_i gap bs1 hg
   split at h
   ·cases h
   ·rename_i len bs2 hl
    split at h
    ·cases h
    ·rename_i hc
     obtain ⟨k1,a1,a2,rfl⟩:=numL_drop _ _ _ hg
     obtain ⟨k2,b1,b2,rfl⟩:=numL_drop _ _ _ hl
     rw [List.length_drop] at b2
     have ih:=rdLenGo_ok k _ _ _ h (by rw [List.length_set]; exact h1) (fun i=>by
      rw [getD_set (by omega)]
      split
      ·omega
      ·exact h2 i) (by omega)
     refine ⟨ih.1,ih.2.1,?_⟩
     have:=ih.2.2
     have hu:=used_set (lens:=lens) (i:=(sy+gap).toNat) (v:=len)
     rw [List.length_drop,List.length_drop] at this
     exact far [_,_,_,_,_,_,_,_,_] [] (.a (.p (.m 2 Z0) Z1) (.p (.m 2 Z2) Z3)) [.a (.n 1) Z4,.a (.n 1) Z5,.a Z6 (.p Z2 (.n 1)),.a (.p (.m 2 Z0) Z1) (.p (.m 2 Z6) Z7),.c (.p Z8 Z4) Z3,.c (.p Z7 Z5) Z8] [1,1,1,2,1,1,1] (fm a1 (fm b1 (fm hu (fm this (fm (ns2 (far [_,_] [] (.a Z0 Z1) [.a Z0 Z1] [1,1] (fm a2 fz) rfl)) (fm (ns2 (far [_,_] [] (.a Z0 Z1) [.a Z0 Z1] [1,1] (fm b2 fz) rfl)) fz)))))) rfl
theorem rdLen_ok {m:Nat} {bs l r:List Int} (h:rdLen m bs=some (l,r)):l.length=m∧(∀ i,0≤l.getD i 0∧l.getD i 0≤64)∧2*(used l).length+r.length+1≤bs.length:=by
 unfold rdLen at h
 split at h
 ·cases h
 ·rename_i n bs1 hn
  split at h
  ·cases h
  ·obtain ⟨k1,a1,a2,rfl⟩:=numL_drop _ _ _ hn
   have ih:=rdLenGo_ok _ _ _ _ h (by simp) (fun i=>by rw [getD_replicate0]; decide) (by lia)
   refine ⟨ih.1,ih.2.1,?_⟩
   have h3:=ih.2.2
   have hu:(used (List.replicate m (0:Int))).length=0:=by
    rw [List.length_eq_zero_iff,List.eq_nil_iff_forall_not_mem]
    intro i hi
    have:=used_pos hi
    rw [getD_replicate0] at this
    lia
   rw [hu,List.length_drop] at h3
   exact far [_,_,_,_,_] [] (.a (.p (.p (.m 2 Z0) Z1) (.n 1)) Z2) [.a (.n 1) Z3,.a (.p (.m 2 Z0) Z1) (.p (.m 2 (.n 0)) Z4),.c (.p Z4 Z3) Z2] [1,1,1,1] (fm a1 (fm h3 (fm (ns2 (far [_,_] [] (.a Z0 Z1) [.a Z0 Z1] [1,1] (fm a2 fz) rfl)) fz))) rfl
end Mine
namespace Mine
open PySem PySem.W PyProof.Rows PySem.Spec PySem.Calls
section
noncomputable def finC (bs:List Int):Bool:=decide (bs.length<8)&&bs.all fun b=>decide (b=0)
theorem finC_iff (bs:List Int):finC bs=true ↔ finB bs:=by simp [finC,finB]
noncomputable def unsqStep (dt:Option (List (Int×Int×Int))) (most:Int) (rec:List Int→List Int→Option (List Int)) (sy:Int) (bs out:List Int):Option (List Int):=
 if sy=256 then (if finC bs=true then some out else none)
 else if sy<256 then (if (out.length:Int)≥most then none else rec bs (out++[sy]))
 else match rdB bs (sy-256-1).toNat 0 with
  | none=>none
  | some (v,bs2)=>match dt with
   | none=>none
   | some dt=>match symL dt (mxl dt).toNat 0 0 bs2 with
    | none=>none
    | some (wd,bs3)=>if wd=0 then none else match rdB bs3 (wd-1).toNat 0 with
     | none=>none
     | some (u,bs4)=>if (2 ^ (wd-1).toNat+u).toNat≤out.length∧(out.length:Int)+((2 ^ (sy-256-1).toNat+v+2).toNat:Nat)≤most then rec bs4 (cpy (2 ^ (sy-256-1).toNat+v+2).toNat out (2 ^ (wd-1).toNat+u).toNat) else none
noncomputable def unsqGo (mt:List (Int×Int×Int)) (dt:Option (List (Int×Int×Int))) (most:Int):Nat→List Int→List Int→Option (List Int)
 | 0,_,_=>none
 | f+1,bs,out=>match symL mt (mxl mt).toNat 0 0 bs with
  | none=>none
  | some (sy,bs1)=>unsqStep dt most (unsqGo mt dt most f) sy bs1 out
noncomputable def unsq (ns:List Int) (most:Int):Option (List Int):=match rdLen 265 ns with
 | none=>none
 | some (lens,r1)=>if complete lens=true then match rdLen 25 r1 with
  | none=>none
  | some (dl,r2)=>if used dl=[] then unsqGo (codes lens) none most (8*r2.length+1) (bitsL r2) []
   else if complete dl=true then unsqGo (codes lens) (some (codes dl)) most (8*r2.length+1) (bitsL r2) [] else none
  else none
theorem getD_drop0 (ns:List Int) (a k:Nat):(ns.drop a).getD k 0=ns.getD (a+k) 0:=by
 rw [List.getD_eq_getElem?_getD,List.getD_eq_getElem?_getD,List.getElem?_drop]
theorem bitsL_drop (ns:List Int) (a:Nat):bitsL (ns.drop a)=(bitsL ns).drop (8*a):=by
 apply List.ext_getElem
 ·rw [bitsL_length,List.length_drop,List.length_drop,bitsL_length]; lia
 ·intro i h1 h2
  rw [List.getElem_drop]
  simp only [bitsL,List.getElem_map,List.getElem_range]
  unfold bitAt
  rw [getD_drop0]
  have e1:(8*a+i) / 8=a+i / 8:=by exact Nat.le_antisymm (far [_,_,_,_] [] (.a Z0 (.p Z1 Z2)) [.a (.r Z0 8) (.p (.m 8 Z1) Z3),.b Z3 (.p (.r Z2 8) (.n 8))] [8,1,1] (fm (nd1 _ _) (fm (nd2 _ _ rfl) fz)) rfl) (far [_,_,_,_] [] (.a (.p Z0 Z1) Z2) [.a (.r Z1 8) Z3,.b (.p (.m 8 Z0) Z3) (.p (.r Z2 8) (.n 8))] [8,1,1] (fm (nd1 _ _) (fm (nd2 _ _ rfl) fz)) rfl)
  have e2:(8*a+i) % 8=i % 8:=by lia
  rw [e1,e2]
theorem unsqGo_succ (mt:List (Int×Int×Int)) (dt:Option (List (Int×Int×Int))) (most:Int) (f:Nat) (bs out:List Int):unsqGo mt dt most (f+1) bs out=match symL mt (mxl mt).toNat 0 0 bs with
  | none=>none
  | some (sy,bs1)=>unsqStep dt most (unsqGo mt dt most f) sy bs1 out:=rfl
section
variable {B:Bs} {nm:NM} {n:Nat} {l:Fr} {own:Led} {K:KE} {d:Addr} {ns:List Int}
theorem unsqueeze_spec {C:Cx B nm (n+20)} {m:Int} {vs:List VS} (hargs:vs=[.ref d,.int m]∨(vs=[.ref d]∧m=65536)) (hs:Hs) (hz:ns.length≤128) (hb:Bytes ns) (hm:m≤100000) (hr:unsq ns m=none→C.rz l∧Sub C.X ((d,ilst ns)::own))
  (hK:∀ out r,unsq ns m=some out→K (.ref r) ((r,ilst out)::(d,ilst ns)::own) hs):CallP C l ((d,ilst ns)::own) (.ref 408) vs K:=by
 refine (?_:CallF C l ((d,ilst ns)::own) (.ref 408) vs K).call
 refine' fnX [.ref d,.int m] (unsq ns m=none) ((d,ilst ns)::own) [] ["data","most"] ["reader","main","lengths","distances","bits","out","symbol","length","width"] hr ?fa ?fb (fun us s hu H=>?fc) rfl ?fe (fun D hz' hX N hN=>?_)
 case fa=>k_is
 case fb=>k_is
 case fe=>rfl
 case fc=>
  have k:=H.keep _ _ (C.hB.X 401 ⟨.type "tuple",none,.seq #[.int 65536 747] 0,#[]⟩ (by k_is))
  rcases hargs with rfl | ⟨rfl,rfl⟩
  ·obtain ⟨t,rfl⟩:=oksRI hu
   exact ⟨_,hu,BindsTo.of_defaults rfl k rfl rfl rfl⟩
  ·obtain rfl:=oksR hu
   exact ⟨[.ref d,.int 65536 747],⟨rfl,⟨747,rfl⟩,trivial⟩,BindsTo.of_defaults rfl k rfl rfl rfl⟩
 have hXs:∀ q G,Sub own G→Sub ((C.env.locals,.ns l)::(d,ilst ns)::G) q→Sub D.X q:=fun q G h1 h2=>hX _ ((Sub.pick .head (.pick .head h1)).trans h2)
 conv=>whnf
 refine br_new [] fun x dx=>?_
 conv=>whnf
 refine CallP.sub (Sub.ix [0,0,1] 0 _) (read_lengths_spec (m:=265) [] (by exact nD hz rfl) (by lia) hb (fun hge=>⟨hz' (by unfold unsq; rw [show rdLen 265 ns=none from hge]),hX _ (Sub.ix [1] 0 _)⟩) fun lens a r h1 h2 h3=>?_)
 have h1:rdLen 265 ns=some (lens,ns.drop a):=h1
 obtain ⟨l1,l2,l3⟩:=rdLen_ok h1
 rw [List.length_drop] at l3
 conv=>whnf
 refine dec_new (fun _ _=>[]) (by exact far [_] [] (.a Z0 (.n 900)) [.c Z0 (.n 265)] [1,1] (fm l1 fz) rfl) (by exact far [_,_,_] [] (.b Z0 (.n 64)) [.a Z1 (.n 128),.a (.p (.p (.m 2 Z0) Z2) (.n 1)) Z1] [2,1,1] (fm hz (fm l3 fz)) rfl) (fun i=>(l2 i).2) complete_ok (fun hco=>⟨hz' (by unfold unsq; rw [h1]; exact if_neg hco),hX _ (Sub.ix [3,2] 2 _)⟩) fun hco mx mdx msd mxs MG htd=>?_
 conv=>whnf
 refine CallP.sub (Sub.ix [4,4,4,0,0,0] 1 _) (read_lengths_spec (m:=25) [.j] (by exact nD hz rfl) (by lia) hb (fun hge=>⟨hz' (by unfold unsq; rw [h1]; dsimp only; rw [if_pos hco,hge]),hXs _ _ (Sub.left own MG) (Sub.ix [4,0] 3 _)⟩) fun dl a2 r2 h4 h5 h6=>?_)
 obtain ⟨d1,d2,d3⟩:=rdLen_ok h4
 rw [List.length_drop,List.length_drop] at d3
 have ebl:bitsL (ns.drop a2)=(bitsL ns).drop (8*a2):=bitsL_drop ns a2
 have eln:(ns.drop a2).length=ns.length-a2:=List.length_drop
 conv=>whnf
 refine StP.join (ι:=VS×Option (List (Int×Int×Int))×Led) (fun z=>unsq ns m=unsqGo (codes lens) z.2.1 m (8*(ns.length-a2)+1) ((bitsL ns).drop (8*a2)) []∧TD z.2.2 mxs (codes lens)∧Sub own z.2.2 ∧
   ((z.1=VS.none∧z.2.1=none)∨(∃ x2 dx2 sd2 xs2 G3,z.1=VS.ref x2∧z.2.1=some (codes dl)∧z.2.2=(x2,.inst 306 dx2)::(dx2,dcr sd2 (mxl (codes dl)))::(sd2,tdic B xs2)::G3∧TD G3 xs2 (codes dl)∧Sub own G3)))
  (fun z=>[("data",.ref d),("most",.int m),("reader",.ref x),("main",.ref mx),("lengths",.ref r2),("distances",z.1),("bits",.any),("out",.any),("symbol",.any),("length",.any),("width",.any)])
  (fun z=>(x,.inst 168 dx)::(dx,br d a2)::(d,ilst ns)::(mx,.inst 306 mdx)::(mdx,dcr msd (mxl (codes lens)))::(msd,tdic B mxs)::(C.env.locals,.ns l)::z.2.2) [] (fun _=>[.i 0,.i 1]) (fun N2 hN2=>?_) (fun z hI=>?_)
 ·have h0:unsq ns m=if used dl=[] then unsqGo (codes lens) none m (8*(ns.length-a2)+1) ((bitsL ns).drop (8*a2)) [] else if complete dl=true then unsqGo (codes lens) (some (codes dl)) m (8*(ns.length-a2)+1) ((bitsL ns).drop (8*a2)) [] else none:=by
   unfold unsq; rw [h1]; dsimp only; rw [if_pos hco,h4]; dsimp only; rw [eln,ebl]
  conv=>whnf
  refine CallP.maxL [] (.head _) (by exact far [_] [] (.b (.n 0) Z0) [.c Z0 (.n 25)] [1,-1] (fm d1 fz) rfl) fun M hM1 hM2=>?_
  conv=>whnf
  refine ⟨fun hM=>?_,fun hM=>?_⟩
  ·have hu:used dl≠[]:=fun q=>by
    obtain ⟨i,hi,rfl⟩:=List.mem_iff_getElem.mp hM1
    have:i∈used dl:=List.mem_filter.mpr ⟨List.mem_range.mpr hi,by simp only [List.getD_eq_getElem?_getD,List.getElem?_eq_getElem hi,Option.getD_some,decide_eq_true_eq]; exact hM⟩
    rw [q] at this; cases this
   rw [if_neg hu] at h0
   conv=>whnf
   refine dec_new (fun _ _=>[]) (by exact far [_] [] (.a Z0 (.n 900)) [.c Z0 (.n 25)] [1,1] (fm d1 fz) rfl) (by exact far [_,_,_,_,_] [] (.b Z0 (.n 64)) [.a Z1 (.n 128),.a (.p (.p (.m 2 Z2) Z3) (.n 1)) Z1,.a (.p (.p (.m 2 Z0) Z4) (.n 1)) Z3] [2,1,1,1] (fm hz (fm l3 (fm d3 fz))) rfl) (fun i=>(d2 i).2) complete_ok (fun hco=>⟨hz' (h0.trans (if_neg hco)),hXs _ _ (Sub.left own MG) (Sub.ix [6,2] 5 _)⟩) fun hco2 x2 dx2 sd2 xs2 G2 htd2=>?_
   conv=>whnf
   exact hN2 (.ref x2,some (codes dl),(x2,.inst 306 dx2)::(dx2,dcr sd2 (mxl (codes dl)))::(sd2,tdic B xs2)::((own++MG)++G2)) _ ⟨h0.trans (if_pos hco2),htd.mono fun p hp=>.tail _ (.tail _ (.tail _ (List.mem_append_left _ (List.mem_append_right _ hp)))),(Sub.left own MG).trans ((Sub.left (own++MG) G2).trans (.skip (.skip (.skip (.refl _))))),
    .inr ⟨x2,dx2,sd2,xs2,_,rfl,rfl,rfl,htd2.mono fun p hp=>List.mem_append_right _ hp,(Sub.left own MG).trans (Sub.left (own++MG) G2)⟩⟩ (Sub.ix [4,4,4,4,4,4,4,0,0,0] 1 _)
  ·have hu:used dl=[]:=List.eq_nil_iff_forall_not_mem.mpr fun i hi=>by
    have h7:=used_pos hi
    have h8:=used_lt hi
    have:=hM2 (dl.getD i 0) (by rw [List.getD_eq_getElem?_getD,List.getElem?_eq_getElem h8]; exact List.getElem_mem h8)
    lia
   rw [if_pos hu] at h0
   conv=>whnf
   exact hN2 (.none,none,own++MG) _ ⟨h0,htd.mono fun p hp=>List.mem_append_right _ hp,Sub.left own MG,.inl ⟨rfl,rfl⟩⟩ (.skip (.refl _))
 ·obtain ⟨dv,dt,G⟩:=z
  obtain ⟨g7,g4,g5,g6⟩:=hI
  dsimp only at g7 g4 g5 g6
  have hmx:=mxl_codes fun i=>(l2 i).2
  have hmx2:mxl (codes dl)≤64:=mxl_codes fun i=>(d2 i).2
  have hsy:∀ {lens:List Int} {sy},(∃ x∈codes lens,x.1=sy)→0≤sy∧sy<lens.length:=fun {lens} {sy} ⟨x,hx,e⟩=>by
   obtain ⟨i,hi,e1,_⟩:=codes_mem hx
   have:=used_lt hi
   exact ⟨far [_] [_,_] (.d (.z 0) Y0) [.f Y1 Y0,.f Y1 X0] [1,1,-1] (fm e (fm e1 fz)) rfl,far [_,_] [_,_] (.e Y0 X0) [.f Y1 Y0,.f Y1 X1,.b Z1 Z0] [1,-1,1,1] (fm e (fm e1 (fm this fz))) rfl⟩
  conv=>whnf
  refine ⟨⟨rfl,rfl⟩,?_⟩
  conv=>whnf
  refine bitr_new [.i 6,.i 7] fun y dy=>?_
  conv=>whnf
  intro o
  conv=>whnf
  refine ⟨⟨rfl,rfl⟩,?_⟩
  conv=>whnf
  refine CallP.sub (Sub.ix [1,1,3,3,3,3,0,2] 2 _) (symbol_spec [] (g4.mono fun p hp=>.tail _ (.tail _ hp)) hmx (by exact nD hz rfl) hb (by exact far [_,_] [] (.a (.m 8 Z0) (.m 8 Z1)) [.a Z0 Z1] [1,8] (fm h6 fz) rfl) (fun hge=>⟨hz' (by rw [g7,unsqGo_succ,hge]),hXs _ _ g5 (Sub.ix [2,0] 1 _)⟩) fun sy p p1 p2 p3=>?_)
  have g8:unsq ns m=unsqStep dt m (unsqGo (codes lens) dt m (8*(ns.length-a2))) sy ((bitsL ns).drop p) []:=by rw [g7,unsqGo_succ,p1]
  have hs1:=hsy (symL_mem _ _ _ _ p1).1
  conv=>whnf
  refine StP.while_ (ι:=Nat×Int×Nat×List Int×VS×VS) (fun k c=>k=8*ns.length-c.2.2.1∧unsq ns m=unsqStep dt m (unsqGo (codes lens) dt m c.1) c.2.1 ((bitsL ns).drop c.2.2.1) c.2.2.2.1∧c.2.2.1≤8*ns.length∧8*ns.length≤c.1+c.2.2.1∧0≤c.2.1∧c.2.1<265∧c.2.2.2.1.length≤100000)
   (fun c=>[("data",.ref d),("most",.int m),("reader",.ref x),("main",.ref mx),("lengths",.ref r2),("distances",dv),("bits",.ref y),("out",.ref o),("symbol",.int c.2.1),("length",c.2.2.2.2.1),("width",c.2.2.2.2.2)])
   (fun c=>(y,.inst 245 dy)::(dy,rdr d c.2.2.1)::(d,ilst ns)::(mx,.inst 306 mdx)::(mdx,dcr msd (mxl (codes lens)))::(msd,tdic B mxs)::(o,ilst c.2.2.2.1)::(C.env.locals,.ns l)::G) _ (8*(ns.length-a2),sy,p,[],.any,.any) (fun _=>[.b [.j] [.i 0,.i 1]])
   ⟨rfl,g8,p3,show 8*ns.length≤8*(ns.length-a2)+p by exact far [_,_,_,_] [] (.a (.m 8 Z0) (.p (.m 8 Z1) Z2)) [.b (.m 8 Z3) Z2,.a Z0 (.p Z1 Z3)] [1,1,8] (fm p2 (fm (ns1 _ _) fz)) rfl,hs1.1,show sy<265 by exact far [_] [_] (.e Y0 (.z 265)) [.c Z0 (.n 265),.e Y0 X0] [1,1,1] (fm l1 (fm hs1.2 fz)) rfl,Nat.zero_le _⟩ (fun k c hI N2 hN2=>?_)
  clear g8 hs1 p1 p2 p3 g7
  obtain ⟨f,sy,p,out,lv1,wv⟩:=c
  obtain ⟨hk,g8,p3,hf,s0,s1,hol⟩:=hI
  dsimp only at hk g8 p3 hf s0 s1 hol
  unfold unsqStep at g8
  conv=>whnf
  refine ⟨fun hend=>?_,fun hend=>?_⟩
  ·rw [if_pos hend] at g8
   conv=>whnf
   refine ⟨⟨rfl,rfl⟩,?_⟩
   conv=>whnf
   refine bitr_finish [] (by exact nD hz rfl) hb p3 (fun hnf=>⟨hz' (g8.trans (if_neg fun q=>hnf ((finC_iff _).mp q))),hXs _ _ g5 (Sub.ix [5,0] 4 _)⟩) fun hfin=>?_
   rw [if_pos ((finC_iff _).mpr hfin)] at g8
   conv=>whnf
   exact hN _ _ hs _ (hK out o g8) ((Sub.pick .head (.pick .head (.pick .head g5))).trans (Sub.ix [5,4,0] 3 _))
  ·rw [if_neg hend] at g8
   conv=>whnf
   refine StP.join (ι:=Nat×List Int×VS×VS) (fun z=>unsq ns m=unsqGo (codes lens) dt m f ((bitsL ns).drop z.1) z.2.1∧p≤z.1∧z.1≤8*ns.length∧z.2.1.length≤100000)
    (fun z=>[("data",.ref d),("most",.int m),("reader",.ref x),("main",.ref mx),("lengths",.ref r2),("distances",dv),("bits",.ref y),("out",.ref o),("symbol",.int sy),("length",z.2.2.1),("width",z.2.2.2)])
    (fun z=>(y,.inst 245 dy)::(dy,rdr d z.1)::(d,ilst ns)::(mx,.inst 306 mdx)::(mdx,dcr msd (mxl (codes lens)))::(msd,tdic B mxs)::(o,ilst z.2.1)::(C.env.locals,.ns l)::G) [.b [.l out,.b [.i 0,.i 1] [.u 6 out]] [.x,.x,.i 8,.i 9]] (fun _=>[.i 3,.i 4]) (fun N3 hN3=>?_) (fun z hI=>?_)
   ·have hsc:Sub ((C.env.locals,.ns l)::(d,ilst ns)::G) ((y,.inst 245 dy)::(dy,rdr d p)::(d,ilst ns)::(mx,.inst 306 mdx)::(mdx,dcr msd (mxl (codes lens)))::(msd,tdic B mxs)::(o,ilst out)::(C.env.locals,.ns l)::G):=Sub.ix [7,2] 6 _
    conv=>whnf
    refine ⟨fun hlit=>?_,fun hlit=>?_⟩
    ·have hlit:sy<256:=hlit
     rw [if_pos hlit] at g8
     conv=>whnf
     refine ⟨⟨(at_mem (j:=6) rfl),by exact nD hol rfl⟩,?_⟩
     conv=>whnf
     refine ⟨fun hfull=>?_,fun hfull=>?_⟩
     ·conv=>whnf
      refine StP.raise [.i 0,.i 1] (hz' (g8.trans (if_pos hfull))) rfl rfl ?_
      conv=>whnf
      refine ⟨⟨rfl,rfl⟩,?_⟩
      conv=>whnf
      exact hXs _ _ g5 hsc
     ·conv=>whnf
      refine ⟨(at_mem (j:=6) rfl),?_⟩
      conv=>whnf
      refine ⟨by exact nA hol rfl,?_⟩
      conv=>whnf
      refine ⟨rfl,?_⟩
      conv=>whnf
      exact hN3 (p,out++[sy],lv1,wv) _ ⟨g8.trans (if_neg hfull),Nat.le_refl _,p3,by rw [List.length_append]; show out.length+1≤100000; exact far [_] [_] (.a (.p Z0 (.n 1)) (.n 100000)) [.d Y0 (.z 100000),.g (.d Y0 X0)] [1,1,1] (fm hm (fm hfull fz)) rfl⟩ (Sub.refl _)
    ·have hlit:¬ sy<256:=hlit
     rw [if_neg hlit] at g8
     have hp7:(2:Int) ^ (sy-256-1).toNat≤128:=by
      have:(2:Nat) ^ (sy-256-1).toNat≤2 ^ 7:=Nat.pow_le_pow_right (by decide) (by lia)
      exact_mod_cast this
     have hend:sy≠256:=hend
     have ek:sy-256-1=((sy-257).toNat:Nat):=by lia
     have ek2:(sy-256-1).toNat=(sy-257).toNat:=by lia
     rw [ek2] at g8 hp7
     conv=>whnf
     refine read_tail_spec (sy-257).toNat [.x,.i 8,.i 9] (by show sy-256=_; exact Int.le_antisymm (far [_] [_] (.d (.s Y0 (.z 256)) (.q X0 (.z 1))) [.f (.s (.s Y0 (.z 256)) (.z 1)) X0] [1,1] (fm ek fz) rfl) (far [_] [_] (.d (.q X0 (.z 1)) (.s Y0 (.z 256))) [.f (.s (.s Y0 (.z 256)) (.z 1)) X0] [1,-1] (fm ek fz) rfl)) (by exact far [_] [_] (.a Z0 (.n 1000)) [.e Y0 (.z 265),.f (.s (.s Y0 (.z 256)) (.z 1)) X0] [1,1,-1] (fm s1 (fm ek fz)) rfl) (by exact nD hz rfl) hb p3 (fun hge=>⟨hz' (by rw [g8,hge]),hXs _ _ g5 (Sub.ix [5,0] 4 _)⟩) fun v h7 h8=>?_
     have hv:=rdB_bd _ _ 0 (bitsL_01 ns p) (Int.le_refl _) h7
     rw [h7] at g8
     dsimp only at g8
     have hv0:0≤v∧v<2 ^ (sy-257).toNat:=⟨by exact far [] [_,_] (.d (.z 0) Y0) [.d (.o 0 Y1) Y0] [1,1] (fm hv.1 fz) rfl,by omega⟩
     clear hv
     have hp1:=pow_pos2 (sy-257).toNat
     rcases g6 with ⟨rfl,rfl⟩ | ⟨x2,dx2,sd2,xs2,G3,rfl,rfl,rfl,k4,k5⟩
     ·conv=>whnf
      refine ⟨fun _=>?_,fun q=>absurd rfl q⟩
      conv=>whnf
      refine StP.raise [.i 0,.i 1] (hz' g8) rfl rfl ?_
      conv=>whnf
      refine ⟨⟨rfl,rfl⟩,?_⟩
      conv=>whnf
      exact hXs _ _ g5 (Sub.ix [7,2] 6 _)
     ·conv=>whnf
      refine ⟨⟨rfl,rfl⟩,?_⟩
      conv=>whnf
      refine CallP.sub (Sub.ix [0,0,0,5,5,5] 0 _) (symbol_spec [.b [] []] (k4.mono fun p hp=>.tail _ (.tail _ (.tail _ (.tail _ (.tail _ hp))))) hmx2 (by exact nD hz rfl) hb h8 (fun hge=>⟨hz' (by rw [g8]; dsimp only; rw [hge]),hXs _ _ k5 (Sub.ix [5,0] 4 _)⟩) fun wd q2 n1 n2 n3=>?_)
      dsimp only at g8
      rw [n1] at g8
      dsimp only at g8
      have hwd:=hsy (symL_mem _ _ _ _ n1).1
      conv=>whnf
      refine ⟨fun hw0=>?_,fun hw0=>?_⟩
      ·rw [if_pos hw0] at g8
       conv=>whnf
       refine StP.raise [.i 0,.i 1] (hz' g8) rfl rfl ?_
       conv=>whnf
       refine ⟨⟨rfl,rfl⟩,?_⟩
       conv=>whnf
       exact hXs _ _ k5 (Sub.ix [10,2] 9 _)
      ·rw [if_neg hw0] at g8
       have hw1:(wd-1).toNat≤1000∧wd=(wd-1).toNat+1:=by lia
       conv=>whnf
       refine read_tail_spec (wd-1).toNat [] hw1.2 hw1.1 (by exact nD hz rfl) hb n3 (fun hge=>⟨hz' (by rw [g8,hge]),hXs _ _ k5 (Sub.ix [8,0] 7 _)⟩) fun u j1 j2=>?_
       have hu:=rdB_bd _ _ 0 (bitsL_01 ns q2) (Int.le_refl _) j1
       rw [j1] at g8
       dsimp only at g8
       have hp2:=pow_pos2 (wd-1).toNat
       have e1:(2:Int) ^ (sy-257).toNat+v+3-1=((2 ^ (sy-257).toNat+v+2).toNat:Nat):=by exact Int.le_antisymm (far [_] [_,_] (.d (.s (.q (.q Y0 Y1) (.z 3)) (.z 1)) X0) [.d (.q (.q Y0 Y1) (.z 2)) X0] [1,1] (fm (it1 _) fz) rfl) (far [_] [_,_] (.d X0 (.s (.q (.q Y0 Y1) (.z 3)) (.z 1))) [.f X0 (.q (.q Y0 Y1) (.z 2))] [1,1] (fm (it2 (far [] [_,_] (.d (.z 0) (.q (.q Y0 Y1) (.z 2))) [.e (.z 0) Y0,.d (.z 0) Y1] [1,1,1] (fm hp1 (fm hv0.1 fz)) rfl)) fz) rfl)
       have e2:(2:Int) ^ (wd-1).toNat+u=((2 ^ (wd-1).toNat+u).toNat:Nat):=by omega
       conv=>whnf
       refine CallP.sub (Sub.ix [9] 0 _) (copy_back_spec (2 ^ (sy-257).toNat+v+2).toNat (2 ^ (wd-1).toNat+u).toNat [] e1 e2 (by exact far [_] [_,_] (.a (.n 1) Z0) [.f (.q Y0 Y1) X0,.e (.z 0) Y0,.d (.o 0 Y0) Y1] [1,1,1,1] (fm e2 (fm hp2 (fm hu.1 fz))) rfl) (by omega) (by exact far [_] [_,_] (.b Z0 (.n 100000000)) [.f (.s (.q (.q Y0 Y1) (.z 3)) (.z 1)) X0,.d Y0 (.z 128),.e Y1 Y0] [1,-1,2,1] (fm e1 (fm hp7 (fm hv0.2 fz))) rfl) (by omega) (fun hc=>⟨hz' (g8.trans (if_neg hc)),hXs _ _ k5 (Sub.ix [9,2] 8 _)⟩) fun c1 c2=>?_)
       rw [if_pos ⟨c1,c2⟩] at g8
       have n2:p+(sy-257).toNat<q2:=n2
       have c2:(out.length:Int)+((2 ^ (sy-257).toNat+v+2).toNat:Nat)≤m:=c2
       conv=>whnf
       exact hN3 (q2+(wd-1).toNat,cpy (2 ^ (sy-257).toNat+v+2).toNat out (2 ^ (wd-1).toNat+u).toNat,.int (2 ^ (sy-257).toNat+v+3-1),.int wd) _ ⟨g8,show p≤q2+(wd-1).toNat by exact far [_,_,_,_] [] (.a Z0 (.p Z1 Z2)) [.b (.p Z0 Z3) Z1] [1,1] (fm n2 fz) rfl,j2,by rw [cpy_length]; exact far [_,_] [_] (.a (.p Z0 Z1) (.n 100000)) [.d Y0 (.z 100000),.d (.q X0 X1) Y0] [1,1,1] (fm hm (fm c2 fz)) rfl⟩ (Sub.ix [1,1,1,4,4,4,0,3] 0 _)
   ·obtain ⟨p1,out1,lv2,wv2⟩:=z
    obtain ⟨g9,q1,q2,q3⟩:=hI
    dsimp only at g9 q1 q2 q3
    conv=>whnf
    refine ⟨⟨rfl,rfl⟩,?_⟩
    conv=>whnf
    refine symbol_spec [] (g4.mono fun p hp=>.tail _ (.tail _ hp)) hmx (by exact nD hz rfl) hb q2 (fun hge=>⟨hz' (by cases f with | zero=>rw [g9]; rfl | succ f=>rw [g9,unsqGo_succ,hge]),hXs _ _ g5 (Sub.ix [2,0] 1 _)⟩) fun sy2 p2 n1 n2 n3=>?_
    obtain ⟨f',rfl⟩:∃ f',f=f'+1:=⟨f-1,by exact Nat.le_antisymm (far [_,_] [] (.a Z0 (.p Z1 (.n 1))) [.a Z0 (.p Z1 (.n 1))] [1,1] (fm (ns1 _ _) fz) rfl) (far [_,_] [] (.a (.p Z0 (.n 1)) Z1) [.c (.p Z0 (.n 1)) Z1] [1,1] (fm (ns2 (far [_,_,_,_,_] [] (.a (.n 1) Z0) [.a (.m 8 Z1) (.p Z0 Z2),.a Z2 Z3,.b Z3 Z4,.a Z4 (.m 8 Z1)] [1,1,1,1,1] (fm hf (fm q1 (fm n2 (fm n3 fz)))) rfl)) fz) rfl)⟩
    rw [unsqGo_succ,n1] at g9
    have hs2:=hsy (symL_mem _ _ _ _ n1).1
    conv=>whnf
    exact hN2 (8*ns.length-p2) (f',sy2,p2,out1,lv2,wv2) _ (show 8*ns.length-p2<k by exact far [_,_,_,_,_,_,_] [] (.b Z0 Z1) [.c Z1 Z2,.a Z3 Z4,.b Z4 Z5,.a (.m 8 Z6) (.p Z2 Z3),.c (.p Z0 Z5) (.m 8 Z6)] [1,-1,1,1,1,1] (fm hk (fm q1 (fm n2 (fm (ns1 _ _) (fm (ns2 (far [_,_] [] (.a Z0 (.m 8 Z1)) [.a Z0 (.m 8 Z1)] [1,1] (fm n3 fz) rfl)) fz))))) rfl) ⟨rfl,g9,n3,show 8*ns.length≤f'+p2 by exact far [_,_,_,_,_] [] (.a (.m 8 Z0) (.p Z1 Z2)) [.a Z3 Z4,.b Z4 Z2,.a (.m 8 Z0) (.p (.p Z1 (.n 1)) Z3)] [1,1,1,1] (fm q1 (fm n2 (fm hf fz))) rfl,hs2.1,show sy2<265 by exact far [_] [_] (.e Y0 (.z 265)) [.c Z0 (.n 265),.e Y0 X0] [1,1,1] (fm l1 (fm hs2.2 fz)) rfl,q3⟩ (Sub.refl _)
end
end
section
noncomputable def keyAt (ns:List Int) (p:Nat):Int:=ns.getD p 0*65536+ns.getD (p+1) 0*256+ns.getD (p+2) 0
noncomputable def plc (ns:List Int) (k:Int) (n:Nat):List Nat:=(List.range n).filter fun p=>decide (keyAt ns p=k)
noncomputable def best (ns:List Int) (w:Int) (a:Nat):Nat×Nat:=if a+3≤ns.length then bestGo ns a (min 257 (ns.length-a)) w (plc ns (keyAt ns a) a).reverse (0,0) else (0,0)
noncomputable def tokGo (ns:List Int) (w:Int):Nat→Nat→List (Int×Int)
 | 0,_=>[]
 | f+1,a=>if a<ns.length then (if (best ns w a).1>0 then (((best ns w a).1:Int),((best ns w a).2:Int)) else (ns.getD a 0,0))::tokGo ns w f (a+max (best ns w a).1 1) else []
noncomputable def toks (ns:List Int) (w:Int):List (Int×Int):=tokGo ns w ns.length 0
theorem bestGo_le (ns:List Int) (a most:Nat) (w:Int):∀ (ps:List Nat) (b:Nat×Nat),b.1≤most→(bestGo ns a most w ps b).1≤most
 | [],b,h=>h
 | p::ps,b,h=>by
  rw [bestGo_cons]
  split
  ·exact h
  ·refine bestGo_le ns a most w ps _ ?_
   split
   ·have:=runGo_le ns a p most 0
    show run ns a p most≤most
    unfold run; exact far [_,_] [] (.a Z0 Z1) [.a Z0 (.p (.n 0) Z1)] [1,1] (fm this.2 fz) rfl
   ·exact h
theorem best_le (ns:List Int) (w:Int) (a:Nat) (h:a≤ns.length):(best ns w a).1≤ns.length-a:=by
 unfold best
 split
 ·have:=bestGo_le ns a (min 257 (ns.length-a)) w (plc ns (keyAt ns a) a).reverse (0,0) (Nat.zero_le _)
  exact far [_,_,_] [] (.a Z0 Z1) [.a Z0 Z2,.a Z2 Z1] [1,1,1] (fm this (fm (Nat.min_le_right _ _) fz)) rfl
 ·exact Nat.zero_le _
theorem plc_succ (ns:List Int) (k:Int) (n:Nat):plc ns k (n+1)=plc ns k n++(if keyAt ns n=k then [n] else []):=by
 unfold plc
 rw [List.range_succ,List.filter_append]
 congr 1
 by_cases h:keyAt ns n=k
 ·rw [if_pos h,List.filter_cons_of_pos (by simpa using h)]; rfl
 ·rw [if_neg h,List.filter_cons_of_neg (by simpa using h)]; rfl
theorem plc_lt {ns:List Int} {k:Int} {n p:Nat} (h:p∈plc ns k n):p<n:=List.mem_range.mp (List.mem_filter.mp h).1
theorem plc_len (ns:List Int) (k:Int) (n:Nat):(plc ns k n).length≤n:=by
 have:=List.length_filter_le (fun p=>decide (keyAt ns p=k)) (List.range n)
 rw [List.length_range] at this
 exact this
noncomputable abbrev KL:=List (Int×Addr×List Nat)
noncomputable def kdic (kl:KL):List (Int×Value):=kl.map fun e=>(e.1,.ref e.2.1)
noncomputable def kled (kl:KL):Led:=kl.map fun e=>(e.2.1,ilst (e.2.2.map Int.ofNat))
structure KLOk (ns:List Int) (n:Nat) (kl:KL):Prop where
 nd:(kl.map (·.1)).Nodup
 val:∀ e∈kl,e.2.2=plc ns e.1 n
 all:∀ k,plc ns k n≠[]→k∈kl.map (·.1)
 len:kl.length≤n
theorem kdic_keys (kl:KL):(kdic kl).map (·.1)=kl.map (·.1):=by simp [kdic]
theorem up_kled {k:Int} {l:Addr} {ps ps':List Nat} {post:KL} {rest:Led}:∀ (pre:KL),Up l (ilst (ps.map Int.ofNat)) (ilst (ps'.map Int.ofNat)) (kled (pre++(k,l,ps)::post)++rest) (kled (pre++(k,l,ps')::post)++rest)
 | []=>.head
 | _::pre=>.tail (up_kled pre)
theorem kok_old {ns:List Int} {n:Nat} {k:Int} {l:Addr} {ps:List Nat} {pre post:KL} (h:KLOk ns n (pre++(k,l,ps)::post)) (hk:keyAt ns n=k):KLOk ns (n+1) (pre++(k,l,ps++[n])::post):=by
 have hkeys:(pre++(k,l,ps++[n])::post).map (·.1)=(pre++(k,l,ps)::post).map (·.1):=by simp
 have hnd:=h.nd
 refine ⟨hkeys ▸ hnd,fun e he=>?_,fun k' hk'=>?_,by have:=h.len; simp only [List.length_append,List.length_cons] at this ⊢; exact far [_,_,_] [] (.a (.p Z0 (.p Z1 (.n 1))) (.p Z2 (.n 1))) [.a (.p Z0 (.p Z1 (.n 1))) Z2] [1,1] (fm this fz) rfl⟩
 ·rw [plc_succ]
  rcases List.mem_append.mp he with he' | he'
  ·have hne:keyAt ns n≠e.1:=fun q=>by
    rw [List.map_append,List.nodup_append] at hnd
    exact hnd.2.2 e.1 (List.mem_map_of_mem he') k (by simp) (by rw [← q,hk])
   rw [if_neg hne,List.append_nil]
   exact h.val e (List.mem_append_left _ he')
  ·rcases List.mem_cons.mp he' with rfl | he'
   ·rw [if_pos hk]
    have:=h.val (k,l,ps) (by simp)
    dsimp only at this ⊢
    rw [this]
   ·have hne:keyAt ns n≠e.1:=fun q=>by
     rw [List.map_append,List.nodup_append] at hnd
     have:=hnd.2.1
     simp only [List.map_cons,List.nodup_cons] at this
     exact this.1 (by rw [← hk,q]; exact List.mem_map_of_mem he')
    rw [if_neg hne,List.append_nil]
    exact h.val e (List.mem_append_right _ (.tail _ he'))
 ·rw [hkeys]
  rw [plc_succ] at hk'
  by_cases e:keyAt ns n=k'
  ·rw [← e,hk]; simp
  ·rw [if_neg e,List.append_nil] at hk'
   exact h.all k' hk'
theorem kok_new {ns:List Int} {n:Nat} {kl:KL} {k:Int} {l:Addr} (h:KLOk ns n kl) (hk:keyAt ns n=k) (hn:k ∉ kl.map (·.1)):KLOk ns (n+1) (kl++[(k,l,[n])]):=by
 have hp:plc ns k n=[]:=Classical.byContradiction fun q=>hn (h.all k q)
 refine ⟨?_,fun e he=>?_,fun k' hk'=>?_,by have:=h.len; simp only [List.length_append,List.length_cons,List.length_nil] at this ⊢; exact far [_,_] [] (.a (.p Z0 (.p (.n 0) (.n 1))) (.p Z1 (.n 1))) [.a Z0 Z1] [1,1] (fm this fz) rfl⟩
 ·rw [List.map_append,List.nodup_append]
  refine ⟨h.nd,by simp,fun a ha b hb=>?_⟩
  have:b=k:=by simpa using hb
  rw [this]
  exact fun q=>hn (q ▸ ha)
 ·rw [plc_succ]
  rcases List.mem_append.mp he with he' | he'
  ·have hne:keyAt ns n≠e.1:=fun q=>hn (by rw [← hk,q]; exact List.mem_map_of_mem he')
   rw [if_neg hne,List.append_nil]
   exact h.val e he'
  ·have:e=(k,l,[n]):=by simpa using he'
   subst this
   dsimp only
   rw [if_pos hk,hp]; rfl
 ·rw [plc_succ] at hk'
  rw [List.map_append]
  by_cases e:keyAt ns n=k'
  ·rw [← e,hk]; simp
  ·rw [if_neg e,List.append_nil] at hk'
   exact List.mem_append_left _ (h.all k' hk')
theorem kdic_get {kl:KL} {k:Int} (hn:(kl.map (·.1)).Nodup):(∀ v,valueAt (kdic kl) k=some v→∃ pre l ps post,kl=pre++(k,l,ps)::post∧v=.ref l)∧(valueAt (kdic kl) k=none→k ∉ kl.map (·.1)):=by
 by_cases hk:k∈kl.map (·.1)
 ·obtain ⟨e,he,rfl⟩:=List.mem_map.mp hk
  obtain ⟨pre,post,rfl⟩:=List.append_of_mem he
  obtain ⟨k,l,ps⟩:=e
  have hv:valueAt (kdic (pre++(k,l,ps)::post)) k=some (.ref l):=valueAt_eq (by rw [kdic_keys]; exact hn) (by simp [kdic])
  refine ⟨fun v h=>⟨pre,l,ps,post,rfl,?_⟩,fun h=>?_⟩
  ·rw [hv] at h; cases h; rfl
  ·rw [hv] at h; cases h
 ·have hv:valueAt (kdic kl) k=none:=valueAt_none (by rw [kdic_keys]; exact hk)
  exact ⟨fun v h=>(by rw [hv] at h; cases h),fun _=>hk⟩
theorem kok_nil (ns:List Int) (n:Nat) (h:n=0):KLOk ns n []:=by
 subst h
 exact ⟨List.nodup_nil,fun e he=>(nomatch he),fun k hk=>absurd rfl hk,Nat.le_refl _⟩
theorem sub_kled {kl:KL} {k:Int} {l:Addr} {ps:List Nat} {rest:Led}:Sub (kled (kl++[(k,l,ps)])++rest) ((l,ilst (ps.map Int.ofNat))::(kled kl++rest)):=by
 refine Sub.of_perm ?_
 have:kled (kl++[(k,l,ps)])=kled kl++[(l,ilst (ps.map Int.ofNat))]:=by simp [kled]
 rw [this,List.append_assoc]
 exact List.perm_middle.symm
noncomputable def tokAt (ns:List Int) (w:Int) (a:Nat):Int×Int:=if (best ns w a).1>0 then (((best ns w a).1:Int),((best ns w a).2:Int)) else (ns.getD a 0,0)
theorem tok_step {ns:List Int} {w:Int} {k a:Nat} {done:List (Int×Int)} (h1:a<ns.length) (h2:ns.length≤k+a) (h:toks ns w=done++tokGo ns w k a):toks ns w=(done++[tokAt ns w a])++tokGo ns w (k-1) (a+max (best ns w a).1 1):=by
 obtain ⟨k,rfl⟩:∃ f',k=f'+1:=⟨k-1,by exact Nat.le_antisymm (far [_,_] [] (.a Z0 (.p Z1 (.n 1))) [.a Z0 (.p Z1 (.n 1))] [1,1] (fm (ns1 _ _) fz) rfl) (far [_,_] [] (.a (.p Z0 (.n 1)) Z1) [.c (.p Z0 (.n 1)) Z1] [1,1] (fm (ns2 (far [_,_,_] [] (.a (.n 1) Z0) [.b Z1 Z2,.a Z2 (.p Z0 Z1)] [1,1,1] (fm h1 (fm h2 fz)) rfl)) fz) rfl)⟩
 rw [h,tokGo,if_pos h1,List.append_assoc]; rfl
theorem tok_end {ns:List Int} {w:Int} {k a:Nat} {done:List (Int×Int)} (h1:¬ a<ns.length) (h:toks ns w=done++tokGo ns w k a):done=toks ns w:=by
 have e:tokGo ns w k a=[]:=by
  cases k with
  | zero=>rfl
  | succ f=>unfold tokGo; rw [if_neg h1]
 rw [h,e,List.append_nil]
theorem known_get {ns:List Int} {n:Nat} {kl:KL} {l0:Addr} (k:Int) (hk:KLOk ns n kl):∃ l,(valueAt (kdic kl) k).getD (.ref l0)=.ref l∧(l,ilst ((plc ns k n).map Int.ofNat))∈(l0,OS.lst [])::kled kl:=by
 have hkg:=kdic_get (k:=k) hk.nd
 cases hv:valueAt (kdic kl) k with
 | none=>
  have hpn:plc ns k n=[]:=Classical.byContradiction fun q=>hkg.2 hv (hk.all _ q)
  exact ⟨l0,rfl,by rw [hpn]; exact .head _⟩
 | some v=>
  obtain ⟨pre,l,ps,post,rfl,rfl⟩:=hkg.1 v hv
  have hps:=hk.val (k,l,ps) (by simp)
  dsimp only at hps
  exact ⟨l,rfl,.tail _ (List.mem_map.mpr ⟨(k,l,ps),by simp,by rw [← hps]⟩)⟩
theorem min_at {a m:Nat} (h:a+3≤m):min a (m-2)=a:=by lia
theorem min_add {a i b m:Nat} (h:a+i<min b m):min a m+i=a+i:=by lia
theorem min_add' {a i b m:Nat} (h:a+i<min b m):min a m+(i+1)=a+i+1:=by lia
theorem max_cast (b:Nat):max (b:Int) 1=((max b 1:Nat):Int):=by lia
theorem mem_known {x a p1 p2 p3 p4:Addr×OS} {m r:Led} (h:x∈a::m):x∈a::p1::p2::p3::p4::(m++r):=by
 rcases List.mem_cons.mp h with rfl | h
 ·exact .head _
 ·exact .tail _ (.tail _ (.tail _ (.tail _ (.tail _ (List.mem_append_left _ h)))))
theorem known_mem {q1 q2 q3 q4 q5 q6:Addr×OS} {r:Led} {k:Int} {l:Addr} {ps:List Nat} {post:KL} (pre:KL):(l,ilst (ps.map Int.ofNat))∈q1::q2::q3::q4::q5::q6::(kled (pre++(k,l,ps)::post)++r):=
 .tail _ (.tail _ (.tail _ (.tail _ (.tail _ (.tail _ (List.mem_append_left _ (List.mem_map.mpr ⟨(k,l,ps),List.mem_append_right _ (.head _),rfl⟩)))))))
section
variable {B:Bs} {nm:NM} {n:Nat} {l:Fr} {own led:Led} {K:KE} {d:Addr} {ns:List Int}
theorem CallP.knownAdd {C:Cx B nm n} {q1 r1 r2 r3 r4:Addr×OS} {r:Led} {m:Nat} {kl:KL} {l0 kd:Addr} (hs:Hs) (hk:KLOk ns m kl) (hz:kl.length≤1000000)
  (h:∀ pre la ps post,KLOk ns (m+1) (pre++(keyAt ns m,la,ps++[m])::post)→K (.ref la) (q1::(kd,idic B (kdic (pre++(keyAt ns m,la,ps)::post)))::r1::r2::r3::r4::(kled (pre++(keyAt ns m,la,ps)::post)++r)) hs):
  CallP C l ((l0,.lst [])::q1::(kd,idic B (kdic kl))::r1::r2::r3::r4::(kled kl++r)) (.builtin "dict.setdefault") [.ref kd,.int (keyAt ns m),.ref l0] K:=⟨fun Q s us hu H k=>by
 obtain ⟨t,rfl⟩:=oksRIR hu
 have hkg:=kdic_get (k:=keyAt ns m) hk.nd
 refine d_setdefU (kvs:=kdic kl) H (.tail (.tail (.tail .head))) (by rw [kdic,List.length_map]; exact hz) (fun v s' hv H'=>?_) (fun hn s' H'=>?_)
 ·obtain ⟨pre,la,ps,post,rfl,rfl⟩:=hkg.1 v hv
  exact k _ _ _ _ _ (h pre la ps post (kok_old hk rfl)) rfl (H'.sub (.pick .head (.skip (.refl _))))
 ·have hnm:=hkg.2 hn
  rw [stored_new (by rw [kdic_keys]; exact hnm)] at H'
  have h:=h kl l0 [] [] (kok_new hk rfl hnm)
  have ek:kdic (kl++[(keyAt ns m,l0,[])])=kdic kl++[(keyAt ns m,.ref l0)]:=List.map_append
  rw [ek] at h
  exact k _ _ _ _ _ h rfl (H'.sub (.pick .head (.pick (.tail .head) (.pick (.tail .head) (.pick (.tail .head) (.pick (.tail .head) (.pick (.tail .head) (.pick (.tail .head) sub_kled))))))))⟩
theorem CallP.knownApp {C:Cx B nm n} {q1 r1 r2 r3 r4:Addr×OS} {r:Led} {m:Nat} {pre post:KL} {la kd:Addr} {k:Int} {ps:List Nat} (hs:Hs) (hk:KLOk ns (m+1) (pre++(k,la,ps++[m])::post)) (hz:m≤1000000)
  (h:K .none (q1::(kd,idic B (kdic (pre++(k,la,ps++[m])::post)))::r1::r2::r3::r4::(kled (pre++(k,la,ps++[m])::post)++r)) hs):
  CallP C l (q1::(kd,idic B (kdic (pre++(k,la,ps)::post)))::r1::r2::r3::r4::(kled (pre++(k,la,ps)::post)++r)) (.builtin "list.append") [.ref la,.int (m:Nat)] K:=⟨fun Q s us hu H kk=>by
 obtain ⟨t,rfl⟩:=oksRI hu
 have hU:=up_kled (k:=k) (l:=la) (ps:=ps) (ps':=ps++[m]) (post:=post) (rest:=r) pre
 have hps:=hk.val (k,la,ps++[m]) (List.mem_append_right _ (.head _))
 dsimp only at hps
 have hpl:=plc_len ns k (m+1)
 rw [← hps,List.length_append,List.length_singleton] at hpl
 rw [List.map_append] at hU
 have ek:kdic (pre++(k,la,ps++[m])::post)=kdic (pre++(k,la,ps)::post):=by simp only [kdic,List.map_append,List.map_cons]
 rw [ek] at h
 exact l_append_ints H (.tail (.tail (.tail (.tail (.tail (.tail (.tail hU))))))) (by rw [List.length_map]; exact far [_,_] [] (.a Z0 (.n 1000000)) [.a Z1 (.n 1000000),.a (.p Z0 (.n 1)) (.p Z1 (.n 1))] [1,1,1] (fm hz (fm hpl fz)) rfl) fun s' H'=>kk _ _ _ _ _ h rfl H'⟩
theorem tokens_spec {C:Cx B nm (n+5)} {w:Int} (hs:List Addr→Led→Hs) (hz:ns.length≤900) (hb':Bytes ns)
  (hK:∀ r as G,Tups G as (toks ns w)→K (.ref r) ((r,.lst (as.map .ref))::(d,ilst ns)::(own++G)) (hs as G)):CallP C l ((d,ilst ns)::own) (.ref 338) [.ref d,.int w] K:=by
 refine' fnK False [] [] ["data","window"] ["tokens","known","at","length","distance","step","place"] (fun h=>h.elim) ?fa ?fb ?fc rfl ?fe (fun D _ _ N hN=>?_)
 (case fa=>k_is); (case fb=>k_is); (case fc=>exact fun _ _ _=>BindsTo.of_eq rfl); (case fe=>rfl)
 conv=>whnf
 intro T
 conv=>whnf
 refine EvP.dict [] fun kd=>?_
 conv=>whnf
 refine StP.while_ (ι:=Nat×KL×Led×List Addr×List (Int×Int)×VS×VS×VS×VS) (fun k c=>c.1≤ns.length∧ns.length≤k+c.1∧c.2.2.2.1.length≤c.1∧toks ns w=c.2.2.2.2.1++tokGo ns w k c.1∧KLOk ns (min c.1 (ns.length-2)) c.2.1∧Tups c.2.2.1 c.2.2.2.1 c.2.2.2.2.1)
  (fun c=>[("data",.ref d),("window",.int w),("tokens",.ref T),("known",.ref kd),("at",.int (c.1:Nat)),("length",c.2.2.2.2.2.2.2.2),("distance",c.2.2.2.2.2.2.2.1),("step",c.2.2.2.2.2.2.1),("place",c.2.2.2.2.2.1)]) (fun c=>(kd,idic B (kdic c.2.1))::(T,.lst (c.2.2.2.1.map .ref))::(C.env.locals,.ns l)::(d,ilst ns)::(kled c.2.1++(c.2.2.1++own))) ns.length (0,[],[],[],[],.any,.any,.any,.any) (fun _=>[.l ns,.b [.j] []]) ⟨Nat.zero_le _,Nat.le_refl _,Nat.le_refl _,rfl,kok_nil ns _ (Nat.zero_min _),.nil⟩ (fun k c h N2 hN2=>?_)
 conv=>whnf
 refine ⟨⟨(at_mem (j:=3) rfl),by exact nD hz rfl⟩,?_⟩
 conv=>whnf
 refine ⟨fun hlt=>?_,fun hlt=>?_⟩
 ·have hlt:c.1<ns.length:=Int.ofNat_lt.mp hlt
  have hc1:c.1≤ns.length:=h.1
  have em:=max_cast (best ns w c.1).1
  conv=>whnf
  refine StP.join (ι:=Unit) (fun _=>True) (fun _=>[("data",.ref d),("window",.int w),("tokens",.ref T),("known",.ref kd),("at",.int (c.1:Nat)),("length",.int ((best ns w c.1).1:Nat)),("distance",.int ((best ns w c.1).2:Nat)),("step",c.2.2.2.2.2.2.1),("place",c.2.2.2.2.2.1)]) (fun _=>(kd,idic B (kdic c.2.1))::(T,.lst (c.2.2.2.1.map .ref))::(C.env.locals,.ns l)::(d,ilst ns)::(kled c.2.1++(c.2.2.1++own))) [.l ns,.b [.m] []] (fun _=>[.v (max (best ns w c.1).1 1:Nat),.i 1,.j]) (fun N3 hN3=>?_) (fun _ _=>?_)
  ·conv=>whnf
   refine ⟨⟨(at_mem (j:=3) rfl),by exact nD hz rfl⟩,?_⟩
   conv=>whnf
   refine ⟨fun h3=>?_,fun h3=>?_⟩
   ·have h3:c.1+3≤ns.length:=Int.ofNat_le.mp h3
    have hb:best ns w c.1=bestGo ns c.1 (min 257 (ns.length-c.1)) w (plc ns (keyAt ns c.1) c.1).reverse (0,0):=if_pos h3
    have hk:=h.2.2.2.2.1
    rw [min_at h3] at hk
    rw [hb] at hN3
    conv=>whnf
    refine ⟨⟨_,.head _⟩,?_⟩
    conv=>whnf
    refine key_at_spec [] (at_mem (j:=3) rfl) (by assumption) (by exact nD hz rfl) hb' ?_
    conv=>whnf
    intro l0
    conv=>whnf
    obtain ⟨la,e,hm⟩:=known_get (l0:=l0) (keyAt ns c.1) hk
    refine CallP.dget [] (.tail _ (.head _)) e ?_
    conv=>whnf
    refine best_copy_spec [.i 0] (at_mem (j:=4) rfl) (mem_known hm) (by exact nD hz rfl) hc1 (fun p hp=>plc_lt hp) (Nat.lt_of_le_of_lt (plc_len _ _ _) (by exact far [_,_] [] (.b Z0 (.n 1000000)) [.a Z1 (.n 900),.b Z0 Z1] [1,1,1] (fm hz (fm hlt fz)) rfl)) fun b=>?_
    conv=>whnf
    refine ⟨rfl,?_⟩
    conv=>whnf
    exact hN3 () _ trivial (.skip (.skip (.refl _)))
   ·have hb:best ns w c.1=(0,0):=if_neg (fun q=>h3 (Int.ofNat_le.mpr q))
    rw [hb] at hN3
    conv=>whnf
    exact hN3 () _ trivial (Sub.refl _)
  ·conv=>whnf
   refine ⟨em,?_⟩
   conv=>whnf
   refine ⟨rfl,?_⟩
   conv=>whnf
   refine EvP.join (ι:=Addr) (fun _=>True) (fun a'=>.ref a') (fun a'=>(a',OS.tup [.int (tokAt ns w c.1).1,.int (tokAt ns w c.1).2])::(kd,idic B (kdic c.2.1))::(T,.lst (c.2.2.2.1.map .ref))::(C.env.locals,.ns l)::(d,ilst ns)::(kled c.2.1++(c.2.2.1++own))) [.l ns] (fun _=>[.i 2]) (fun N3 hN3=>?_) (fun a' _=>?_)
   ·conv=>whnf
    refine ⟨fun hc=>?_,fun hc=>?_⟩
    ·rw [tokAt,if_pos (Int.ofNat_lt.mp hc)] at hN3
     conv=>whnf
     intro a'
     conv=>whnf
     exact hN3 a' _ trivial (Sub.refl _)
    ·rw [tokAt,if_neg (fun q=>hc (Int.ofNat_lt.mpr q))] at hN3
     conv=>whnf
     refine ⟨⟨(at_mem (j:=3) rfl),by exact Int.natCast_nonneg _,by omega,by exact nD hz rfl⟩,?_⟩
     conv=>whnf
     intro a'
     conv=>whnf
     exact hN3 a' _ trivial (Sub.refl _)
   ·have hst:1≤max (best ns w c.1).1 1:=Nat.le_max_right _ _
    have hbl:=best_le ns w c.1 h.1
    have hm0:min c.1 (ns.length-2)+(min (c.1+max (best ns w c.1).1 1) (ns.length-2)-c.1)=min (c.1+max (best ns w c.1).1 1) (ns.length-2):=by clear em h hN hN2 hK hbl; lia
    have hst2:c.1+max (best ns w c.1).1 1≤ns.length:=by clear em h hN hN2 hK hm0; omega
    have hts:=tok_step hlt h.2.1 h.2.2.2.1
    have hal:c.2.2.2.1.length≤c.1:=h.2.2.1
    generalize max (best ns w c.1).1 1=st at *
    conv=>whnf
    refine ⟨⟨rfl,by rw [List.length_map]; exact far [_,_,_] [] (.a Z0 (.n 1000000)) [.a Z1 (.n 900),.b Z2 Z1,.a Z0 Z2] [1,1,1,1] (fm hz (fm hlt (fm hal fz))) rfl⟩,?_⟩
    conv=>whnf
    refine StP.for_ [.l ns,.x] (fun _=>rfl) ?_
    conv=>whnf
    refine ⟨⟨(at_mem (j:=4) rfl),by exact nD hz rfl⟩,?_⟩
    conv=>whnf
    refine CallP.sub (Sub.ix [1,1,1,1,0] 0 _) (CallP.range2 [] fun r=>?_)
    refine FoP.rng (ι:=KL×VS) (x:=(c.1:Nat)) (y:=min ((c.1:Int)+(st:Nat)) ((ns.length:Int)-3+1)) (min (c.1+st) (ns.length-2)-c.1) (fun i=>((c.1+i:Nat):Int)) (fun i z=>KLOk ns (min c.1 (ns.length-2)+i) z.1) (fun z=>[("data",.ref d),("window",.int w),("tokens",.ref T),("known",.ref kd),("at",.int (c.1:Nat)),("length",.int ((best ns w c.1).1:Nat)),("distance",.int ((best ns w c.1).2:Nat)),("step",.int (st:Nat)),("place",z.2)])
     (fun z=>(kd,idic B (kdic z.1))::(T,.lst (c.2.2.2.1.map .ref++[.ref a']))::(C.env.locals,.ns l)::(d,ilst ns)::(a',OS.tup [.int (tokAt ns w c.1).1,.int (tokAt ns w c.1).2])::(kled z.1++(c.2.2.1++own))) (c.2.1,c.2.2.2.2.2.1) (fun _ _=>[.m]) (fun _=>[]) (by omega) (by omega) (fun i=>(Int.natCast_add _ _).symm) h.2.2.2.2.1 (fun i z hi hk ia N3 hN3=>?_) (fun z hk=>?_)
    ·have hi:c.1+i<min (c.1+st) (ns.length-2):=Nat.add_lt_of_lt_sub' hi
     rw [min_add hi] at hk
     have hl:=hk.len
     conv=>whnf
     refine ⟨⟨_,.tail _ (.head _)⟩,?_⟩
     conv=>whnf
     refine key_at_spec [] (at_mem (j:=4) rfl) (by omega) (by exact nD hz rfl) hb' ?_
     conv=>whnf
     intro l0
     conv=>whnf
     refine CallP.knownAdd [.m] hk (by exact far [_,_,_,_,_,_] [] (.a Z0 (.n 1000000)) [.a Z1 (.n 900),.b (.p Z2 Z3) Z4,.a Z0 (.p Z2 Z3),.a Z5 Z1,.a Z4 Z5] [1,1,1,1,1,1] (fm hz (fm hi (fm hl (fm (Nat.sub_le _ _) (fm (Nat.min_le_right _ _) fz))))) rfl) fun pre la ps post hk'=>?_
     conv=>whnf
     refine ⟨⟨_,known_mem pre⟩,?_⟩
     conv=>whnf
     refine CallP.knownApp [] hk' (by exact far [_,_,_,_,_] [] (.a (.p Z0 Z1) (.n 1000000)) [.a Z2 (.n 900),.b (.p Z0 Z1) Z3,.a Z4 Z2,.a Z3 Z4] [1,1,1,1,1] (fm hz (fm hi (fm (Nat.sub_le _ _) (fm (Nat.min_le_right _ _) fz)))) rfl) ?_
     conv=>whnf
     exact hN3 (_,.int ((c.1+i:Nat):Int)) _ (by rw [min_add' hi]; exact hk') (Sub.refl _)
    ·have hk':KLOk ns (min c.1 (ns.length-2)+(min (c.1+st) (ns.length-2)-c.1)) z.1:=hk
     rw [hm0] at hk'
     conv=>whnf
     exact hN2 (k-1) (c.1+st,z.1,(a',OS.tup [.int (tokAt ns w c.1).1,.int (tokAt ns w c.1).2])::c.2.2.1,c.2.2.2.1++[a'],c.2.2.2.2.1++[tokAt ns w c.1],z.2,.int (st:Nat),_,_) _ (Nat.sub_lt_self Nat.one_pos (Nat.le_of_lt_succ (by have h:=h.2.1; lia)))
      ⟨hst2,show ns.length≤k-1+(c.1+st) by have h:=h.2.1; exact far [_,_,_,_,_] [] (.a Z0 (.p Z1 (.p Z2 Z3))) [.a Z0 (.p Z4 Z2),.a (.n 1) Z3,.a Z4 (.p Z1 (.n 1))] [1,1,1,1] (fm h (fm hst (fm (ns1 _ _) fz))) rfl,by rw [List.length_append]; exact Nat.add_le_add h.2.2.1 hst,hts,hk',(h.2.2.2.2.2.mono fun p hp=>.tail _ hp).snoc (.head _)⟩ (by
       rw [List.map_append]
       exact .pick .head (.pick .head (.pick .head (.pick .head (.of_perm List.perm_middle.symm)))))
 ·have ht:=h.2.2.2.2.2
  rw [tok_end (fun q=>hlt (Int.ofNat_lt.mpr q)) h.2.2.2.1] at ht
  conv=>whnf
  exact hN _ _ (hs c.2.2.2.1 c.2.2.1) _ (hK T c.2.2.2.1 c.2.2.1 ht) (Sub.trans (.pick .head (.pick .head (.pick .head ((Sub.comm c.2.2.1 own).trans (Sub.right _ _))))) (Sub.ix [2,1,1] 1 _))
end
end
section
noncomputable def mainSym (p:Int×Int):Int:=if p.2=0 then p.1 else 256+(Builtin.Int.intBits (p.1-3+1):Nat)
noncomputable def bumpI (l:List Int) (i:Nat):List Int:=l.set i (l.getD i 0+1)
noncomputable def cntM (ts:List (Int×Int)) (l:List Int):List Int:=ts.foldl (fun l p=>bumpI l (mainSym p).toNat) l
noncomputable def cntD (ts:List (Int×Int)) (l:List Int):List Int:=ts.foldl (fun l p=>if 0<p.2 then bumpI l (Builtin.Int.intBits p.2) else l) l
theorem bumpI_len (l:List Int) (i:Nat):(bumpI l i).length=l.length:=by simp [bumpI]
theorem cntM_len:∀ (ts:List (Int×Int)) (l:List Int),(cntM ts l).length=l.length
 | [],_=>rfl
 | p::ts,l=>by show (cntM ts (bumpI l (mainSym p).toNat)).length=_; rw [cntM_len ts,bumpI_len]
theorem cntD_len:∀ (ts:List (Int×Int)) (l:List Int),(cntD ts l).length=l.length
 | [],_=>rfl
 | p::ts,l=>by
  show (cntD ts (if 0<p.2 then bumpI l (Builtin.Int.intBits p.2) else l)).length=_
  rw [cntD_len ts]; split
  ·rw [bumpI_len]
  ·rfl
structure TokOk (p:Int×Int):Prop where
 lo:0≤mainSym p
 hi:mainSym p<265
 nn:0≤p.2
 dd:Builtin.Int.intBits p.2<25
section
variable {B:Bs} {nm:NM} {n:Nat} {l:Fr} {own led:Led} {K:KE} {a T:Addr} {as:List Addr} {ts:List (Int×Int)} {p:Int×Int}
theorem main_symbol_spec {C:Cx B nm (n+1)} (hs:Hs) (hm:(a,OS.tup [.int p.1,.int p.2])∈led) (hK:K (.int (mainSym p)) led hs):CallP C l led (.ref 345) [.ref a] K:=by
 unfold mainSym at hK
 refine' fnK False [] [.t [.int p.1,.int p.2],.b [.t [.int p.1,.int p.2]] [.t [.int p.1,.int p.2],.x]] ["token"] [] (fun h=>h.elim) ?fa ?fb ?fc rfl ?fe (fun D _ _ N hN=>?_)
 (case fa=>k_is); (case fb=>k_is); (case fc=>exact fun _ _=>BindsTo.of_eq rfl); (case fe=>rfl)
 conv=>whnf
 refine ⟨.tail _ hm,?_⟩
 conv=>whnf
 refine ⟨fun h=>?_,fun h=>?_⟩
 ·rw [if_pos h] at hK
  conv=>whnf
  refine ⟨.tail _ hm,?_⟩
  conv=>whnf
  exact hN _ _ hs _ hK (Sub.refl _)
 ·rw [if_neg h] at hK
  conv=>whnf
  refine ⟨.tail _ hm,?_⟩
  conv=>whnf
  exact hN _ _ hs _ hK (Sub.refl _)
theorem count_symbols_spec {C:Cx B nm (n+3)} (hs:Hs) (ht:Tups own as ts) (hz:ts.length≤900) (hok:∀ p∈ts,TokOk p)
  (hK:∀ r m d,K (.ref r) ((r,.tup [.ref m,.ref d])::(m,ilst (bumpI (cntM ts (List.replicate 265 0)) 256))::(d,ilst (cntD ts (List.replicate 25 0)))::(T,.lst (as.map .ref))::own) hs):CallP C l ((T,.lst (as.map .ref))::own) (.ref 352) [.ref T] K:=by
 refine' fnK False [] [.i 0,.i 0] ["tokens"] ["main","distances","token"] (fun h=>h.elim) ?fa ?fb ?fc rfl ?fe (fun D _ _ N hN=>?_)
 (case fa=>k_is); (case fb=>k_is); (case fc=>exact fun _ _=>BindsTo.of_eq rfl); (case fe=>rfl)
 have hasl:=ht.length
 conv=>whnf
 intro b1
 conv=>whnf
 refine ⟨⟨rfl,by decide,by decide⟩,fun m=>?_⟩
 conv=>whnf
 intro b2
 conv=>whnf
 refine ⟨⟨rfl,by decide,by decide⟩,fun d=>?_⟩
 conv=>whnf
 refine StP.for_ [] (fun _=>rfl) ?_
 conv=>whnf
 refine FoP.go (ι:=VS×List Int×List Int) (itrList B T (as.map .ref)) (fun i c=>c.2.1=cntM (ts.take i) (List.replicate 265 0)∧c.2.2=cntD (ts.take i) (List.replicate 25 0)∧c.2.1.length=265∧c.2.2.length=25)
  (fun c=>[("tokens",.ref T),("main",.ref m),("distances",.ref d),("token",c.1)]) (fun c=>(d,ilst c.2.2)::(b2,.lst [.int 0])::(m,ilst c.2.1)::(b1,.lst [.int 0])::(C.env.locals,.ns l)::(T,.lst (as.map .ref))::own) (.any,List.replicate 265 0,List.replicate 25 0)
  (fun i=>.ref (as.getD i 0)) (fun i c=>[]) (fun c=>[.l c.2.1,.u 2 c.2.1]) (fun i h=>refs_item h) (IterP.list (.tail _ (.tail _ (.tail _ (.tail _ (.tail _ (.head _))))))) ⟨rfl,rfl,List.length_replicate,List.length_replicate⟩ (fun _ _ _=>.tail _ (.tail _ (.tail _ (.tail _ (.tail _ (.tail _ (.head _))))))) (fun _ _ _ _ _ _ _ _ _ q=>wpAny_pure q) (fun i c hi hI ia N2 hN2=>?_) (fun c hI=>?_)
 ·have hi:i<as.length:=(List.length_map (f:=VS.ref) (as:=as)) ▸ hi
  have hit:i<ts.length:=hasl ▸ hi
  have hg:=ht.get hit
  have hpm:ts.getD i (0,0)∈ts:=by rw [List.getD_eq_getElem?_getD,List.getElem?_eq_getElem hit]; exact List.getElem_mem hit
  have hst:ts.take (i+1)=ts.take i++[ts.getD i (0,0)]:=by
   rw [List.take_succ,List.getElem?_eq_getElem hit,List.getD_eq_getElem?_getD,List.getElem?_eq_getElem hit]; rfl
  have ok:=hok _ hpm
  generalize ts.getD i (0,0)=p at *
  generalize as.getD i 0=a at *
  have o1:=ok.lo
  have o2:=ok.hi
  have o3:=ok.nn
  have o4:=ok.dd
  have eM:cntM (ts.take (i+1)) (List.replicate 265 0)=bumpI c.2.1 (mainSym p).toNat:=by rw [hst,hI.1]; unfold cntM; rw [List.foldl_append]; rfl
  have eD:cntD (ts.take (i+1)) (List.replicate 25 0)=if 0<p.2 then bumpI c.2.2 (Builtin.Int.intBits p.2) else c.2.2:=by rw [hst,hI.2.1]; unfold cntD; rw [List.foldl_append]; rfl
  have lM:=hI.2.2.1
  have lD:=hI.2.2.2
  conv=>whnf
  refine main_symbol_spec (p:=p) [.l c.2.1,.u 3 c.2.1,.t [.int p.1,.int p.2],.b [.t [.int p.1,.int p.2],.l c.2.2,.u 1 c.2.2] []] (List.mem_append_right [_,_,_,_,_,_,_] hg) ?_
  conv=>whnf
  refine ⟨⟨(at_mem (j:=3) rfl),o1,by exact far [_] [_] (.e Y0 X0) [.e Y0 (.z 265),.c Z0 (.n 265)] [1,1,-1] (fm o2 (fm lM fz)) rfl,by exact far [_] [] (.b Z0 (.n 1000000)) [.c Z0 (.n 265)] [1,1] (fm lM fz) rfl⟩,?_⟩
  conv=>whnf
  refine ⟨⟨o1,by exact far [_] [_] (.e Y0 X0) [.e Y0 (.z 265),.c Z0 (.n 265)] [1,1,-1] (fm o2 (fm lM fz)) rfl,by exact far [_] [] (.b Z0 (.n 1000000)) [.c Z0 (.n 265)] [1,1] (fm lM fz) rfl⟩,?_⟩
  conv=>whnf
  refine ⟨rfl,?_⟩
  conv=>whnf
  refine ⟨List.mem_append_right [_,_,_,_,_,_,_] hg,?_⟩
  conv=>whnf
  refine ⟨fun hc=>?_,fun hc=>?_⟩
  ·rw [if_pos hc] at eD
   conv=>whnf
   refine ⟨List.mem_append_right [_,_,_,_,_,_,_] hg,?_⟩
   conv=>whnf
   refine ⟨⟨(at_mem (j:=1) rfl),by exact Int.natCast_nonneg _,by exact far [_,_] [] (.e X0 X1) [.b Z0 (.n 25),.c Z1 (.n 25)] [1,1,-1] (fm o4 (fm lD fz)) rfl,by exact far [_] [] (.b Z0 (.n 1000000)) [.c Z0 (.n 25)] [1,1] (fm lD fz) rfl⟩,?_⟩
   conv=>whnf
   refine ⟨⟨by exact Int.natCast_nonneg _,by exact far [_,_] [] (.e X0 X1) [.b Z0 (.n 25),.c Z1 (.n 25)] [1,1,-1] (fm o4 (fm lD fz)) rfl,by exact far [_] [] (.b Z0 (.n 1000000)) [.c Z0 (.n 25)] [1,1] (fm lD fz) rfl⟩,?_⟩
   conv=>whnf
   refine ⟨rfl,?_⟩
   conv=>whnf
   exact hN2 (.ref a,bumpI c.2.1 (mainSym p).toNat,bumpI c.2.2 (Builtin.Int.intBits p.2)) _ ⟨eM.symm,eD.symm,(bumpI_len _ _).trans lM,(bumpI_len _ _).trans lD⟩ (Sub.refl _)
  ·rw [if_neg hc] at eD
   conv=>whnf
   exact hN2 (.ref a,bumpI c.2.1 (mainSym p).toNat,c.2.2) _ ⟨eM.symm,eD.symm,(bumpI_len _ _).trans lM,lD⟩ (Sub.refl _)
 ·have hn:ts.take (itrList B T (as.map .ref)).n=ts:=by show ts.take ((as.map VS.ref).length)=ts; rw [List.length_map,hasl,List.take_length]
  rw [hn] at hI
  have e1:=hI.1
  have e2:=hI.2.1
  have e3:=hI.2.2.1
  have e4:=hI.2.2.2
  rw [← e1,← e2] at hK
  conv=>whnf
  refine ⟨⟨(at_mem (j:=2) rfl),by decide,by rw [e3]; decide,by rw [e3]; decide⟩,?_⟩
  conv=>whnf
  refine ⟨⟨by decide,by rw [e3]; decide,by rw [e3]; decide⟩,?_⟩
  conv=>whnf
  refine ⟨rfl,?_⟩
  conv=>whnf
  intro r
  conv=>whnf
  exact hN _ _ hs _ (hK r m d) (Sub.ix [5,0,2,0,2] 2 _)
end
noncomputable def tailB (v:Int):List Int:=toBits v (Builtin.Int.intBits v-1)
theorem bits_pos {v:Int} (h:1≤v):1≤Builtin.Int.intBits v:=by
 unfold Builtin.Int.intBits
 rw [if_neg (by simp; lia)]
 lia
noncomputable def look (cs:List (Int×Int×Int)) (s:Int):Int×Int:=match cs.find? (fun x=>decide (x.1=s)) with
 | some x=>x.2
 | none=>(0,0)
noncomputable def codB (cs:List (Int×Int×Int)) (s:Int):List Int:=toBits (look cs s).1 (look cs s).2.toNat
noncomputable def tokB (mc dc:List (Int×Int×Int)) (p:Int×Int):List Int:=codB mc (mainSym p)++(if 0<p.2 then tailB (p.1-3+1)++(codB dc (Builtin.Int.intBits p.2:Nat)++tailB p.2) else [])
noncomputable def encT (mc dc:List (Int×Int×Int)):List (Int×Int)→List Int
 | []=>codB mc 256
 | p::r=>tokB mc dc p++encT mc dc r
theorem toBits_len (v:Int) (w:Nat):(toBits v w).length=w:=by simp [toBits]
structure CdOk (cs:List (Int×Int×Int)):Prop where
 nd:(cs.map (·.1)).Nodup
 bd:∀ x∈cs,0≤x.2.1∧0≤x.2.2∧x.2.2≤64
theorem look_mem {cs:List (Int×Int×Int)} (hn:(cs.map (·.1)).Nodup) {x:Int×Int×Int} (hx:x∈cs):look cs x.1=x.2:=by
 induction cs with
 | nil=>cases hx
 | cons y r ih=>
  unfold look
  rw [List.find?_cons]
  by_cases e:y.1=x.1
  ·rw [show decide (y.1=x.1)=true by simpa using e]
   rcases List.mem_cons.mp hx with q | q
   ·rw [q]
   ·rw [List.map_cons,List.nodup_cons] at hn
    exact absurd (e ▸ List.mem_map_of_mem q) hn.1
  ·rw [show decide (y.1=x.1)=false by simpa using e]
   rcases List.mem_cons.mp hx with q | q
   ·exact absurd (by rw [q]) e
   ·rw [List.map_cons,List.nodup_cons] at hn
    exact ih hn.2 q
theorem look_bd {cs:List (Int×Int×Int)} (h:CdOk cs) (s:Int):(look cs s).2.toNat≤64:=by
 unfold look
 split
 ·rename_i x hx
  have:=h.bd x (List.mem_of_find?_eq_some hx)
  exact far [_] [_] (.a Z0 (.n 64)) [.d Y0 (.z 64),.f X0 Y0] [1,1,1] (fm this.2.2 (fm (it2 (far [] [_] (.d (.z 0) Y0) [.d (.z 0) Y0] [1,1] (fm this.2.1 fz) rfl)) fz)) rfl
 ·decide
theorem tailB_len (v:Int):(tailB v).length=Builtin.Int.intBits v-1:=toBits_len _ _
theorem codB_len {cs:List (Int×Int×Int)} (h:CdOk cs) (s:Int):(codB cs s).length≤64:=by unfold codB; rw [toBits_len]; exact look_bd h s
structure TokOk2 (p:Int×Int):Prop extends TokOk p where
 ln:0<p.2→3≤p.1
theorem tokOk2_bits {p:Int×Int} (h:TokOk2 p) (hc:0<p.2):Builtin.Int.intBits (p.1-3+1)≤9:=by
 have:=h.hi
 unfold mainSym at this
 rw [if_neg (by lia)] at this
 exact far [_] [] (.a Z0 (.n 9)) [.e (.q (.z 256) X0) (.z 265)] [1,1] (fm this fz) rfl
theorem tokB_len {mc dc:List (Int×Int×Int)} {p:Int×Int} (hm:CdOk mc) (hd:CdOk dc) (h:TokOk2 p):(tokB mc dc p).length≤170:=by
 unfold tokB
 have h1:=codB_len hm (mainSym p)
 have h2:=codB_len hd (Builtin.Int.intBits p.2:Nat)
 have h3:=h.dd
 rw [List.length_append]
 split
 ·rename_i hc
  have:=tokOk2_bits h hc
  rw [List.length_append,List.length_append,tailB_len,tailB_len]
  exact far [_,_,_,_,_,_] [] (.a (.p Z0 (.p Z1 (.p Z2 Z3))) (.n 170)) [.a Z0 (.n 64),.a Z2 (.n 64),.b Z4 (.n 25),.a Z5 (.n 9),.a Z1 Z5,.a Z3 Z4] [1,1,1,1,1,1,1] (fm h1 (fm h2 (fm h3 (fm this (fm (Nat.sub_le _ _) (fm (Nat.sub_le _ _) fz)))))) rfl
 ·simp; exact nA h1 rfl
section
variable {B:Bs} {nm:NM} {n:Nat} {l:Fr} {own:Led} {K:KE} {x dx o T md dd:Addr} {bs:List Int} {as:List Addr} {ts:List (Int×Int)} {kvm kvd:List (Int×Value)} {mc dc:List (Int×Int×Int)}
theorem write_tail_spec {C:Cx B nm (n+6)} {v:Int} (hs:Hs) (hv:1≤v) (hw:Builtin.Int.intBits v<9000) (hz:bs.length<100000)
  (hK:K .none ((x,.inst 203 dx)::(dx,bwr o (bs++tailB v))::(o,ilst (bst (bs++tailB v)).1)::own) hs):CallP C l ((x,.inst 203 dx)::(dx,bwr o bs)::(o,ilst (bst bs).1)::own) (.ref 359) [.ref x,.int v] K:=by
 have hp:=bits_pos hv
 refine' fnK False [] [.i 1,.i 2,.v (Builtin.Int.intBits v-1:Nat)] ["bits","value"] [] (fun h=>h.elim) ?fa ?fb ?fc rfl ?fe (fun D _ _ N hN=>?_)
 (case fa=>k_is); (case fb=>k_is); (case fc=>exact fun _ _ _=>BindsTo.of_eq rfl); (case fe=>rfl)
 conv=>whnf
 refine ⟨⟨rfl,rfl⟩,?_⟩
 conv=>whnf
 refine ⟨by exact Int.le_antisymm (far [_,_] [] (.d (.s X0 (.z 1)) X1) [.a Z0 (.p Z1 (.n 1))] [1,1] (fm (ns1 _ _) fz) rfl) (far [_,_] [] (.d X0 (.s X1 (.z 1))) [.c (.p Z0 (.n 1)) Z1] [1,1] (fm (ns2 (far [_] [] (.a (.n 1) Z0) [.a (.n 1) Z0] [1,1] (fm hp fz) rfl)) fz) rfl),?_⟩
 conv=>whnf
 refine CallP.sub (Sub.ix [1,1,1,0] 0 _) (bitw_bits [] (by exact Int.le_of_lt ‹_›) (by exact far [_,_] [] (.b Z0 (.n 10000)) [.b Z1 (.n 9000),.a Z0 Z1] [1,1,1] (fm hw (fm (Nat.sub_le _ _) fz)) rfl) hz ?_)
 conv=>whnf
 exact hN _ _ hs _ hK (Sub.ix [3,0,0,0] 0 _)
theorem write_tokens_spec {C:Cx B nm (n+8)} (hs:Hs) (hT:(T,.lst (as.map .ref))∈own) (hm:(md,idic B kvm)∈own) (hd:(dd,idic B kvd)∈own)
  (ht:Tups own as ts) (hcm:CD own kvm mc) (hcd:CD own kvd dc) (okm:CdOk mc) (okd:CdOk dc) (hz:ts.length≤200) (hbz:bs.length≤1000) (hok:∀ p∈ts,TokOk2 p)
  (hM:∀ p∈ts,∃ x∈mc,x.1=mainSym p) (hE:∃ x∈mc,x.1=256) (hD:∀ p∈ts,0<p.2→∃ x∈dc,x.1=(Builtin.Int.intBits p.2:Nat))
  (hK:K .none ((x,.inst 203 dx)::(dx,bwr o (bs++encT mc dc ts))::(o,ilst (bst (bs++encT mc dc ts)).1)::own) hs):
  CallP C l ((x,.inst 203 dx)::(dx,bwr o bs)::(o,ilst (bst bs).1)::own) (.ref 366) [.ref x,.ref T,.ref md,.ref dd] K:=by
 have hcod:∀ {kvs:List (Int×Value)} {cs:List (Int×Int×Int)} {sy:Int},CD own kvs cs→CdOk cs→(∃ x∈cs,x.1=sy)→∃ a c,∃ w:Nat,valueAt kvs sy=some (.ref a)∧(a,OS.tup [.int c,.int (w:Nat)])∈own∧0≤c∧w≤64∧codB cs sy=toBits c w:=by
  rintro kvs cs sy hc ok ⟨y,hy,rfl⟩
  obtain ⟨a,h1,h2⟩:=hc.get hy
  have:=ok.bd y hy
  refine ⟨a,y.2.1,y.2.2.toNat,valueAt_eq (by rw [hc.keys]; exact ok.nd) h1,?_,this.1,by exact far [_] [_] (.a Z0 (.n 64)) [.d Y0 (.z 64),.f X0 Y0] [1,1,1] (fm this.2.2 (fm (it2 (far [] [_] (.d (.z 0) Y0) [.d (.z 0) Y0] [1,1] (fm this.2.1 fz) rfl)) fz)) rfl,by unfold codB; rw [look_mem ok.nd hy]⟩
  rw [Int.toNat_of_nonneg this.2.1]
  exact h2
 have hasl:=ht.length
 refine' fnK False [] [] ["bits","tokens","main","distances"] ["token","code","length"] (fun h=>h.elim) ?fa ?fb ?fc rfl ?fe (fun D _ _ N hN=>?_)
 (case fa=>k_is); (case fb=>k_is); (case fc=>exact fun _ _ _ _ _=>BindsTo.of_eq rfl); (case fe=>rfl)
 conv=>whnf
 refine StP.for_ [] (fun _=>rfl) ?_
 conv=>whnf
 refine FoP.go (ι:=List Int×VS×VS×VS) (itrList B T (as.map .ref)) (fun i c=>c.1.length≤bs.length+170*i∧bs++encT mc dc ts=c.1++encT mc dc (ts.drop i))
  (fun c=>[("bits",.ref x),("tokens",.ref T),("main",.ref md),("distances",.ref dd),("token",c.2.1),("code",c.2.2.1),("length",c.2.2.2)]) (fun c=>(C.env.locals,.ns l)::(x,.inst 203 dx)::(dx,bwr o c.1)::(o,ilst (bst c.1).1)::own) (bs,.any,.any,.any)
  (fun i=>.ref (as.getD i 0)) (fun i c=>[]) (fun c=>[.x]) (fun i h=>refs_item h) (IterP.list (List.mem_append_right [_,_,_,_] hT)) ⟨Nat.le_refl _,rfl⟩ (fun _ _ _=>.tail _ (.tail _ (.tail _ (.tail _ (.tail _ hT))))) (fun _ _ _ _ _ _ _ _ _ q=>wpAny_pure q) (fun i c hi hI ia N2 hN2=>?_) (fun c hI=>?_)
 ·have hi:i<as.length:=(List.length_map (f:=VS.ref) (as:=as)) ▸ hi
  have hit:i<ts.length:=hasl ▸ hi
  have hg:=ht.get hit
  have hpm:ts.getD i (0,0)∈ts:=by rw [List.getD_eq_getElem?_getD,List.getElem?_eq_getElem hit]; exact List.getElem_mem hit
  have hdr:ts.drop i=ts.getD i (0,0)::ts.drop (i+1):=by
   rw [List.drop_eq_getElem_cons hit,List.getD_eq_getElem?_getD,List.getElem?_eq_getElem hit]; rfl
  rw [hdr] at hI
  have ok:=hok _ hpm
  have hM1:=hM _ hpm
  have hD1:=hD _ hpm
  generalize ts.getD i (0,0)=p at *
  generalize as.getD i 0=a at *
  have hdl:c.1.length≤bs.length+170*i:=hI.1
  have hen:bs++encT mc dc ts=c.1++(tokB mc dc p++encT mc dc (ts.drop (i+1))):=hI.2
  have htl:=tokB_len okm okd ok
  obtain ⟨ca,cc,cw,hv1,hv2,hv3,hv4,hv5⟩:=hcod hcm okm hM1
  have o4:=ok.dd
  have o5:=ok.ln
  have hcl:(codB mc (mainSym p)).length≤64:=codB_len okm _
  have hl1:c.1.length≤36000:=by exact far [_,_,_,_] [] (.a Z0 (.n 36000)) [.a Z1 (.n 200),.a Z2 (.n 1000),.b Z3 Z1,.a Z0 (.p Z2 (.m 170 Z3))] [1,170,1,170,1] (fm hz (fm hbz (fm hit (fm hdl fz)))) rfl
  have hl2:(c.1++codB mc (mainSym p)).length≤37000:=by rw [List.length_append]; exact far [_,_] [] (.a (.p Z0 Z1) (.n 37000)) [.a Z1 (.n 64),.a Z0 (.n 36000)] [1,1,1] (fm hcl (fm hl1 fz)) rfl
  have hen2:bs++encT mc dc ts=(c.1++tokB mc dc p)++encT mc dc (ts.drop (i+1)):=hen.trans (List.append_assoc ..).symm
  have htl2:(c.1++tokB mc dc p).length≤bs.length+170*(i+1):=by rw [List.length_append]; exact far [_,_,_,_] [] (.a (.p Z0 Z1) (.p Z2 (.m 170 (.p Z3 (.n 1))))) [.a Z0 (.p Z2 (.m 170 Z3)),.a Z1 (.n 170)] [1,1,1] (fm hdl (fm htl fz)) rfl
  conv=>whnf
  refine main_symbol_spec (p:=p) [.x] (List.mem_append_right [_,_,_,_,_] hg) ?_
  conv=>whnf
  refine ItP.dict rfl [.t [.int cc,.int cw],.i 2,.i 3] (List.mem_append_right [_,_,_,_,_] hm) hv1 ?_
  conv=>whnf
  refine ⟨List.mem_append_right [_,_,_,_,_] hv2,?_⟩
  conv=>whnf
  refine ⟨⟨rfl,rfl⟩,?_⟩
  conv=>whnf
  refine CallP.sub (Sub.ix [2,2,2] 0 _) (bitw_bits [.t [.int p.1,.int p.2],.b [.t [.int p.1,.int p.2],.x] []] hv3 (by exact nD hv4 rfl) (by exact nD hl1 rfl) ?_)
  rw [← hv5]
  conv=>whnf
  refine ⟨List.mem_append_right [_,_,_,_,_] hg,?_⟩
  conv=>whnf
  refine ⟨fun hc=>?_,fun hc=>?_⟩
  ·have hb9:=tokOk2_bits ok hc
   have ho5:=o5 hc
   obtain ⟨da,dc',dw,hd1,hd2,hd3,hd4,hd5⟩:=hcod hcd okd (hD1 hc)
   have hdl2:(codB dc (Builtin.Int.intBits p.2:Nat)).length≤64:=codB_len okd _
   have htl1:=tailB_len (p.1-3+1)
   have hl3:((c.1++codB mc (mainSym p))++tailB (p.1-3+1)).length≤38000:=by rw [List.length_append]; exact far [_,_,_,_] [] (.a (.p Z0 Z1) (.n 38000)) [.a Z0 (.n 37000),.a Z2 (.n 9),.c Z1 Z3,.a Z3 Z2] [1,1,1,1,1] (fm hl2 (fm hb9 (fm htl1 (fm (Nat.sub_le _ _) fz)))) rfl
   have hl4:(((c.1++codB mc (mainSym p))++tailB (p.1-3+1))++codB dc (Builtin.Int.intBits p.2:Nat)).length≤39000:=by rw [List.length_append]; exact far [_,_] [] (.a (.p Z0 Z1) (.n 39000)) [.a Z0 (.n 38000),.a Z1 (.n 64)] [1,1,1] (fm hl3 (fm hdl2 fz)) rfl
   have et:c.1++codB mc (mainSym p)++tailB (p.1-3+1)++codB dc (Builtin.Int.intBits p.2:Nat)++tailB p.2=c.1++tokB mc dc p:=by
    unfold tokB
    rw [if_pos hc]
    simp only [List.append_assoc]
   conv=>whnf
   refine ⟨List.mem_append_right [_,_,_,_,_] hg,?_⟩
   conv=>whnf
   refine write_tail_spec [.t [.int p.1,.int p.2],.x] (by exact far [] [_] (.d (.z 1) (.q (.s Y0 (.z 3)) (.z 1))) [.d (.z 3) Y0] [1,1] (fm ho5 fz) rfl) (by exact nD hb9 rfl) (by exact nD hl2 rfl) ?_
   conv=>whnf
   refine ⟨List.mem_append_right [_,_,_,_,_] hg,?_⟩
   conv=>whnf
   refine ItP.dict rfl [.t [.int dc',.int dw],.i 0,.i 1] (List.mem_append_right [_,_,_,_,_] hd) hd1 ?_
   conv=>whnf
   refine ⟨List.mem_append_right [_,_,_,_,_] hd2,?_⟩
   conv=>whnf
   refine ⟨⟨rfl,rfl⟩,?_⟩
   conv=>whnf
   refine bitw_bits [.t [.int p.1,.int p.2]] hd3 (by exact nD hd4 rfl) (by exact nD hl3 rfl) ?_
   rw [← hd5]
   conv=>whnf
   refine ⟨List.mem_append_right [_,_,_,_,_] hg,?_⟩
   conv=>whnf
   refine write_tail_spec [] (by assumption) (by exact nB o4 rfl) (by exact nD hl4 rfl) ?_
   rw [et]
   conv=>whnf
   exact hN2 (c.1++tokB mc dc p,.ref a,.int dc',.int dw) _ ⟨htl2,hen2⟩ (Sub.ix [3,3] 0 _)
  ·have et:c.1++codB mc (mainSym p)=c.1++tokB mc dc p:=by
    unfold tokB
    rw [if_neg hc,List.append_nil]
   rw [et]
   conv=>whnf
   exact hN2 (c.1++tokB mc dc p,.ref a,.int cc,.int cw) _ ⟨htl2,hen2⟩ (Sub.ix [3,3] 0 _)
 ·have hn:(itrList B T (as.map .ref)).n=ts.length:=by show ((as.map VS.ref).length)=_; rw [List.length_map,hasl]
  rw [hn,List.drop_length] at hI
  have hdl:c.1.length≤bs.length+170*ts.length:=hI.1
  have hen:bs++encT mc dc ts=c.1++codB mc 256:=hI.2
  obtain ⟨ca,cc,cw,hv1,hv2,hv3,hv4,hv5⟩:=hcod hcm okm hE
  conv=>whnf
  refine ItP.dict rfl [.t [.int cc,.int cw],.i 1,.i 2] (List.mem_append_right [_,_,_,_] hm) hv1 ?_
  conv=>whnf
  refine ⟨List.mem_append_right [_,_,_,_] hv2,?_⟩
  conv=>whnf
  refine ⟨⟨rfl,rfl⟩,?_⟩
  conv=>whnf
  refine CallP.sub (Sub.ix [1,1,1] 0 _) (bitw_bits [] hv3 (by exact nD hv4 rfl) (by exact far [_,_,_] [] (.b Z0 (.n 100000)) [.a Z1 (.n 200),.a Z2 (.n 1000),.a Z0 (.p Z2 (.m 170 Z1))] [1,170,1,1] (fm hz (fm hbz (fm hdl fz))) rfl) ?_)
  rw [← hv5,← hen]
  conv=>whnf
  exact hN _ _ hs _ hK (Sub.ix [3] 0 _)
end
end
section
noncomputable def wrGo (lens:List Int):Int→List Nat→List Int
 | _,[]=>[]
 | b,s::r=>leb (s-b)++(leb (lens.getD s 0)++wrGo lens s r)
noncomputable def wrLen (lens:List Int):List Int:=leb (used lens).length++wrGo lens (-1) (used lens)
theorem leb_len (k:Int):1≤(leb k).length∧(leb k).length≤2:=by
 unfold leb
 split <;> simp
section
variable {B:Bs} {nm:NM} {n:Nat} {l:Fr} {own:Led} {K:KE} {x dx o c:Addr} {ns lens:List Int}
theorem write_lengths_spec {C:Cx B nm (n+5)} (hs:Hs) (hz:lens.length≤900) (hl:∀ i,0≤lens.getD i 0∧lens.getD i 0≤64) (hn:ns.length<10000)
  (hK:K .none ((x,.inst 98 dx)::(dx,bw o)::(o,ilst (ns++wrLen lens))::(c,ilst lens)::own) hs):CallP C l ((x,.inst 98 dx)::(dx,bw o)::(o,ilst ns)::(c,ilst lens)::own) (.ref 371) [.ref x,.ref c] K:=by
 have hz':lens.length<1000000:=Nat.lt_of_le_of_lt hz (by decide)
 have hul:=used_len lens
 refine' fnC (fun _=>[]) ["writer","lengths"] [("writer",.ref x),("used",.any),("before",.any),("symbol",.any)] [("lengths",0,.ref c)] (fun L r=>(L+1+0,.cell (.ref c))::r) (fun _ _=>rfl) ?fa ?fb ?fc rfl ?fk (fun us hu=>?fl) (fun L us hu=>?fm) (by show ([0]:List Nat).Nodup; decide) ?fe (fun L D hD _ N hN=>?_)
 (case fa=>k_is); (case fb=>k_is); (case fc=>exact fun _ _=>rfl); (case fe=>rfl)
 case fk=>exact fun L y hy=>(List.mem_cons.mp hy).elim (fun e=>by rw [e]; exact .inl rfl) fun hy=>by rw [List.mem_singleton.mp hy]; exact .inr ⟨rfl,rfl⟩
 case fl=>
  ·obtain ⟨_,rfl,h1⟩:=oksC_ref hu
   obtain rfl:=oksR h1
   refine nsOk.mk (fun p hp=>?_) (nodupB_ok rfl) (fun y hy=>?_)
   ·rcases List.mem_cons.mp hp with rfl | hp
    ·exact rfl
    ·rcases List.mem_cons.mp hp with rfl | hp
     ·trivial
     ·rcases List.mem_cons.mp hp with rfl | hp
      ·trivial
      ·rw [List.mem_singleton.mp hp]; trivial
   ·show (if y = "writer" then some (Value.ref x) else none)=none
    rw [if_neg]
    intro q
    subst q
    exact hy (.head _)
 case fm=>obtain ⟨_,rfl,h1⟩:=oksC_ref hu; obtain rfl:=oksR h1; exact fun c hc=>by rw [List.mem_singleton.mp hc]; exact ⟨rfl,rfl⟩
 have hcl:D.env.cells.lookup (Str.ofString "lengths")=some (L+1+0):=by rw [hD]; rfl
 conv=>whnf
 refine StP.compU D [("lengths",L+1+0)] [.i 0,.l lens] rfl rfl (by rw [hD]; rfl) (fun _=>rfl) ?_
 conv=>whnf
 refine ⟨hcl,?_⟩
 conv=>whnf
 refine ⟨⟨(at_mem (j:=5) rfl),hz'⟩,?_⟩
 conv=>whnf
 refine CallP.range1 [] fun r=>?_
 refine CmU.go (ι:=Unit) D (itrRange B 0 1 lens.length) [("symbol",.any)] (fun i vs _=>vs=(usedP lens i).map (fun (s:Nat)=>VS.int (s:Nat))∧i≤lens.length)
  (fun _=>(L+1+0,.cell (.ref c))::(C.env.locals,.ns l)::(x,.inst 98 dx)::(dx,bw o)::(o,ilst ns)::(c,ilst lens)::own) () (fun i=>.int (i:Nat)) (fun i vs z=>[.i 3,.l lens]) (fun _=>[.i 3,.i 4,.l ((used lens).map Int.ofNat)]) rfl rfl ⟨rfl,fun p hp=>by rw [List.mem_singleton.mp hp]⟩ (fun i _=>⟨by show VS.int (0+i*1)=_; rw [Int.zero_add,Int.mul_one],rfl⟩) (IterP.range (by lia) (by rfl)) range_self let_name ⟨rfl,Nat.zero_le _⟩ (fun _ _ _ _ _=>trivial) (fun i vs z hI=>?_) (fun i vs z hi hI ia a D' N1 N0 h1 h0=>?_) (fun D' vs z hI=>?_)
 ·rw [hI.1,List.length_map]
  exact Nat.le_trans (usedP_len lens i) (Nat.le_trans hI.2 (Nat.le_of_lt hz'))
 ·conv=>whnf
  refine ⟨rfl,?_⟩
  conv=>whnf
  refine ⟨⟨(at_mem (j:=8) rfl),idx1 hi hz'⟩,?_⟩
  conv=>whnf
  refine ⟨fun hc=>?_,fun hc=>?_⟩
  ·have hc:lens.getD i 0>0:=hc
   conv=>whnf
   refine ⟨rfl,?_⟩
   refine h1 _ () _ _ rfl ⟨?_,hi⟩ (Sub.refl _)
   rw [hI.1,usedP_succ,if_pos hc,List.map_append]; rfl
  ·have hc:¬lens.getD i 0>0:=hc
   conv=>whnf
   refine h0 () _ _ rfl ⟨?_,hi⟩ (Sub.refl _)
   rw [usedP_succ,if_neg hc,List.append_nil]
   exact hI.1
 ·have e:OS.lst vs=ilst ((used lens).map Int.ofNat):=by
   rw [hI.1]
   unfold ilst
   rw [List.map_map]; rfl
  rw [e]
  clear e hI
  have hll:((used lens).map Int.ofNat).length=(used lens).length:=List.length_map _
  have hpw:(used lens).Pairwise (·<·):=List.pairwise_lt_range.filter _
  have hlb0:=leb_len (used lens).length
  conv=>whnf
  refine ⟨⟨rfl,rfl⟩,?_⟩
  conv=>whnf
  refine ⟨⟨(at_mem (j:=0) rfl),by exact far [_,_,_] [] (.b Z0 (.n 1000000)) [.a Z1 (.n 900),.a Z2 Z1,.c Z0 Z2] [1,1,1,1] (fm hz (fm hul (fm hll fz))) rfl⟩,?_⟩
  rw [hll]
  conv=>whnf
  refine CallP.sub (Sub.ix [3,3,3] 0 _) (bw_number [] (by lia) (by lia) (by exact nB hn rfl) ?_)
  conv=>whnf
  refine StP.for_ [] (fun _=>rfl) ?_
  conv=>whnf
  refine FoP.go (ι:=List Int×Int×VS) (itrList B D' (((used lens).map Int.ofNat).map VS.int)) (fun i c'=>c'.1.length≤ns.length+2+4*i∧ns++wrLen lens=c'.1++wrGo lens c'.2.1 ((used lens).drop i)∧(∀ s∈(used lens).drop i,c'.2.1<s)∧-1≤c'.2.1)
   (fun c'=>[("writer",.ref x),("used",.ref D'),("before",.int c'.2.1),("symbol",c'.2.2)]) (fun c'=>(x,.inst 98 dx)::(dx,bw o)::(o,ilst c'.1)::(D',ilst ((used lens).map Int.ofNat))::(L+1+0,.cell (.ref c))::(C.env.locals,.ns l)::(c,ilst lens)::own) (ns++leb (used lens).length,-1,.any)
   (fun i=>.int ((used lens).getD i 0:Nat)) (fun i c'=>[.i 1,.i 2,.x]) (fun _=>[]) (fun i h=>⟨?_,rfl⟩) (IterP.list (List.mem_append_right [_,_,_] (.head _))) ⟨by rw [List.length_append]; exact far [_,_] [] (.a (.p Z0 Z1) (.p (.p Z0 (.n 2)) (.m 4 (.n 0)))) [.a Z1 (.n 2)] [1,1] (fm hlb0.2 fz) rfl,(List.append_assoc ..).symm,fun s _=>by show (-1:Int)<(s:Nat); lia,Int.le_refl _⟩ (fun _ _ _=>List.mem_append_right [_,_,_,_] (.head _)) (fun _ _ _ _ _ _ _ _ _ q=>wpAny_pure q) (fun i c' hi hI ia N2 hN2=>?_) (fun c' hI=>?_)
  ·have h:i<(used lens).length:=by simpa only [List.length_map] using (show i<(((used lens).map Int.ofNat).map VS.int).length from h)
   show ((((used lens).map Int.ofNat).map VS.int)[i]?).getD .any=_
   rw [List.getElem?_map,List.getElem?_map,List.getD_eq_getElem?_getD,List.getElem?_eq_getElem h]; rfl
  ·have hi:i<(used lens).length:=by simpa only [List.length_map] using (show i<(((used lens).map Int.ofNat).map VS.int).length from hi)
   have hdr:(used lens).drop i=(used lens).getD i 0::(used lens).drop (i+1):=by
    rw [List.drop_eq_getElem_cons hi,List.getD_eq_getElem?_getD,List.getElem?_eq_getElem hi]; rfl
   have hpm:(used lens).getD i 0∈used lens:=by rw [List.getD_eq_getElem?_getD,List.getElem?_eq_getElem hi]; exact List.getElem_mem hi
   have hpd:=hpw.sublist (List.drop_sublist i _)
   rw [hdr] at hpd hI
   have hdl:=hI.1
   have hw:=hI.2.1
   have hb:=hI.2.2.1
   have hb0:=hI.2.2.2
   have hpd:=(List.pairwise_cons.mp hpd).1
   have hlt:=used_lt hpm
   have hbl:=hb _ (.head _)
   generalize (used lens).getD i 0=sy at *
   have hls:=hl sy
   have hlb1:=leb_len ((sy:Nat)-c'.2.1)
   have hlb2:=leb_len (lens.getD sy 0)
   have hl1:(c'.1++leb ((sy:Nat)-c'.2.1)).length≤ns.length+4+4*i:=by rw [List.length_append]; exact far [_,_,_,_] [] (.a (.p Z0 Z1) (.p (.p Z2 (.n 4)) (.m 4 Z3))) [.a Z0 (.p (.p Z2 (.n 2)) (.m 4 Z3)),.a Z1 (.n 2)] [1,1,1] (fm hdl (fm hlb1.2 fz)) rfl
   have hl2:((c'.1++leb ((sy:Nat)-c'.2.1))++leb (lens.getD sy 0)).length≤ns.length+2+4*(i+1):=by rw [List.length_append]; exact far [_,_,_,_] [] (.a (.p Z0 Z1) (.p (.p Z2 (.n 2)) (.m 4 (.p Z3 (.n 1))))) [.a Z0 (.p (.p Z2 (.n 4)) (.m 4 Z3)),.a Z1 (.n 2)] [1,1,1] (fm hl1 (fm hlb2.2 fz)) rfl
   conv=>whnf
   refine ⟨⟨rfl,rfl⟩,?_⟩
   conv=>whnf
   refine CallP.sub (Sub.ix [1,1,1] 0 _) (bw_number [.i 0,.i 1,.i 5,.l lens] (by exact far [_] [_] (.d (.z 0) (.s X0 Y0)) [.e Y0 X0] [1,1] (fm hbl fz) rfl) (by exact far [_,_] [_] (.d (.s X0 Y0) (.z 8000)) [.a Z1 (.n 900),.d (.z (-1)) Y0,.b Z0 Z1] [1,1,1,1] (fm hz (fm hb0 (fm hlt fz))) rfl) (by exact far [_,_,_,_,_] [] (.b Z0 (.n 1000000)) [.a Z1 (.n 900),.b Z2 (.n 10000),.b Z3 Z4,.a Z4 Z1,.a Z0 (.p (.p Z2 (.n 2)) (.m 4 Z3))] [1,4,1,4,4,1] (fm hz (fm hn (fm hi (fm hul (fm hdl fz))))) rfl) ?_)
   conv=>whnf
   refine ⟨⟨rfl,rfl⟩,?_⟩
   conv=>whnf
   refine ⟨hcl,?_⟩
   conv=>whnf
   refine ⟨⟨(at_mem (j:=7) rfl),idx1 hlt hz'⟩,?_⟩
   conv=>whnf
   refine bw_number [] hls.1 (by have:=hls.2; exact Int.le_trans this (by decide)) (by exact far [_,_,_,_,_] [] (.b Z0 (.n 1000000)) [.a Z1 (.n 900),.b Z2 (.n 10000),.b Z3 Z4,.a Z4 Z1,.a Z0 (.p (.p Z2 (.n 4)) (.m 4 Z3))] [1,4,1,4,4,1] (fm hz (fm hn (fm hi (fm hul (fm hl1 fz))))) rfl) ?_
   conv=>whnf
   refine hN2 ((c'.1++leb ((sy:Nat)-c'.2.1))++leb (lens.getD sy 0),(sy:Nat),.int (sy:Nat)) _ ⟨hl2,hw.trans ?_,fun s hs=>Int.ofNat_lt.mpr (hpd s hs),by show (-1:Int)≤(sy:Nat); exact Int.natCast_nonneg _⟩ (Sub.ix [3] 0 _)
   show c'.1++(leb ((sy:Nat)-c'.2.1)++(leb (lens.getD sy 0)++wrGo lens (sy:Nat) _))=_
   rw [List.append_assoc,List.append_assoc]
  ·have hn:(itrList B D' (((used lens).map Int.ofNat).map VS.int)).n=(used lens).length:=(List.length_map _).trans hll
   rw [hn,List.drop_length] at hI
   have hw:ns++wrLen lens=c'.1:=hI.2.1.trans (List.append_nil _)
   rw [hw] at hK
   conv=>whnf
   exact hN _ _ hs _ hK (Sub.ix [5,0,0,0,2] 2 _)
end
end
end Mine
namespace Mine
theorem huff_used {cs lens:List Int} (h:Huff cs lens):used lens=used cs:=by
 unfold used
 rw [h.len]
 refine List.filter_congr fun i hi=>?_
 have hi:=List.mem_range.mp hi
 by_cases hc:cs.getD i 0>0
 ·have hu:i∈used cs:=List.mem_filter.mpr ⟨List.mem_range.mpr hi,by simpa using hc⟩
  have:=h.pos i hu
  rw [decide_eq_true hc,decide_eq_true (by assumption)]
 ·have hu:i ∉ used cs:=fun q=>hc (by simpa using (List.mem_filter.mp q).2)
  rw [h.zero i hu]
  rw [decide_eq_false hc]; rfl
theorem huff_bd {cs lens:List Int} (h:Huff cs lens) (i:Nat):0≤lens.getD i 0∧(lens.getD i 0≤1∨lens.getD i 0+1≤(used cs).length):=by
 by_cases hu:i∈used cs
 ·have h1:=h.pos i hu
  have h2:=h.bd i hu
  exact ⟨by exact Int.le_of_lt ‹_›,h2⟩
 ·rw [h.zero i hu]; exact ⟨Int.le_refl _,.inl (by decide)⟩
theorem sum_perm {l m:List Int} (h:l.Perm m):l.sum=m.sum:=by
 induction h with
 | nil=>rfl
 | cons a _ ih=>rw [List.sum_cons,List.sum_cons,ih]
 | swap a b l=>simp only [List.sum_cons]; lia
 | trans _ _ i1 i2=>rw [i1,i2]
theorem huff_complete {cs lens:List Int} (h:Huff cs lens) (hne:used cs≠[]):complete lens=true:=by
 have hu:=huff_used h
 unfold complete
 rw [osy_len,hu]
 by_cases h2:(used cs).length<2
 ·rw [if_pos h2]
  have h1:(used cs).length=1:=by have:=List.length_pos_iff.mpr hne; exact Nat.le_antisymm (far [_] [] (.a Z0 (.n 1)) [.b Z0 (.n 2)] [1,1] (fm h2 fz) rfl) (far [_] [] (.a (.n 1) Z0) [.b (.n 0) Z0] [1,1] (fm this fz) rfl)
  obtain ⟨s,hs⟩:=List.length_eq_one_iff.mp h1
  have hl:=h.one s hs
  have hp:(osy lens).Perm [(lens.getD s 0,(s:Int))]:=by
   have:=osy_perm lens
   unfold pairs at this
   rw [hu,hs] at this
   exact this
  rw [List.perm_singleton.mp hp,hl]
  simp [h1]
 ·rw [if_neg h2]
  have hk:=h.kraft (by exact far [_] [] (.a (.n 2) Z0) [.g (.b Z0 (.n 2))] [1,1] (fm h2 fz) rfl)
  have hg:=fun p hp=>osy_last (lens:=lens) (p:=p) hp
  have hlen:(osy lens).length=(used cs).length:=by rw [osy_len,hu]
  have hgm:(osy lens).getD ((osy lens).length-1) (0,0)∈osy lens:=getD_osy_mem (by exact far [_,_] [] (.b Z0 Z1) [.c (.p Z0 (.n 1)) Z1] [1,1] (fm (ns2 (far [_,_] [] (.a (.n 1) Z0) [.g (.b Z1 (.n 2)),.c Z0 Z1] [1,1,-1] (fm h2 (fm hlen fz)) rfl)) fz) rfl)
  rw [hlen] at hg hgm
  generalize (osy lens).getD ((used cs).length-1) (0,0)=gp at *
  obtain ⟨j,hj,rfl⟩:=osy_mem hgm
  have hg1:∀ i∈used cs,lens.getD i 0≤lens.getD j 0:=fun i hi=>by
   have:=hg (lens.getD i 0,(i:Int)) ((osy_perm lens).mem_iff.mpr (List.mem_map.mpr ⟨i,by rw [hu]; exact hi,rfl⟩))
   exact this
  rw [hu] at hj
  have hjb:=h.bd j hj
  have hjp:=h.pos j hj
  have hul:=used_len cs
  have hpos:∀ i∈used cs,0≤lens.getD i 0:=fun i hi=>by have:=h.pos i hi; exact Int.le_of_lt ‹_›
  dsimp only
  generalize lens.getD j 0=g at *
  rw [decide_eq_true_eq,ksum_eq]
  have e1:ksm g (osy lens)=ksm g (pairs lens):=by unfold ksm; exact sum_perm ((osy_perm lens).map _)
  have e2:ksm g (pairs lens)=((used cs).map fun i=>(2:Int) ^ (g-lens.getD i 0).toNat).sum:=by
   unfold ksm pairs; rw [List.map_map,hu]; rfl
  have e3:∀ l:List Nat,(∀ i∈l,0≤lens.getD i 0∧lens.getD i 0≤g)→(l.map fun i=>(2:Int) ^ (g-lens.getD i 0).toNat).sum*2 ^ ((cs.length:Int)-g).toNat=((kr cs.length lens l:Nat):Int):=by
   intro l hl
   induction l with
   | nil=>simp [kr]
   | cons a l ih=>
    have ih:=ih fun i hi=>hl i (.tail _ hi)
    have ha:=hl a (.head _)
    have:kr cs.length lens (a::l)=krf cs.length lens a+kr cs.length lens l:=rfl
    rw [this,List.map_cons,List.sum_cons,Int.add_mul,ih,← Int.pow_add]
    have:(g-lens.getD a 0).toNat+((cs.length:Int)-g).toNat=cs.length-(lens.getD a 0).toNat:=by lia
    rw [this]
    unfold krf
    push_cast
    rfl
  have e4:=e3 (used cs) fun i hi=>⟨hpos i hi,hg1 i hi⟩
  rw [hk] at e4
  rw [e1,e2]
  have hp:=pow_pos2 ((cs.length:Int)-g).toNat
  refine Int.eq_of_mul_eq_mul_right (Int.ne_of_gt hp) ?_
  rw [e4,← Int.pow_add]
  have:g.toNat+((cs.length:Int)-g).toNat=cs.length:=by lia
  rw [this]
  push_cast
  rfl
theorem codesOk_nil {lens:List Int} (h:used lens=[]):CodesOk lens:=by
 have:codes lens=[]:=by
  have h1:(osy lens).length=0:=by rw [osy_len,h]; rfl
  unfold codes
  rw [List.length_eq_zero_iff.mp h1]; rfl
 exact ⟨fun x hx=>by rw [this] at hx; cases hx⟩
theorem huff_codesOk {cs lens:List Int} (h:Huff cs lens):CodesOk lens:=by
 by_cases hne:used cs=[]
 ·exact codesOk_nil (by rw [huff_used h]; exact hne)
 ·exact complete_ok (huff_complete h hne)
theorem codes_has {lens:List Int} {i:Nat} (h:i∈used lens):∃ x∈codes lens,x.1=i∧x.2.2=lens.getD i 0:=by
 have hp:(lens.getD i 0,(i:Int))∈osy lens:=(osy_perm lens).mem_iff.mpr (List.mem_map.mpr ⟨i,h,rfl⟩)
 have:(i:Int)∈(codes lens).map (·.1):=by
  unfold codes
  rw [cgo_syms]
  exact List.mem_map.mpr ⟨_,hp,rfl⟩
 obtain ⟨x,hx,e⟩:=List.mem_map.mp this
 obtain ⟨j,hj,e1,e2⟩:=codes_mem hx
 have:j=i:=by exact Nat.le_antisymm (far [_,_] [_] (.a Z0 Z1) [.f Y0 X1,.f Y0 X0] [1,1,-1] (fm e (fm e1 fz)) rfl) (far [_,_] [_] (.a Z0 Z1) [.f Y0 X0,.f Y0 X1] [1,-1,1] (fm e (fm e1 fz)) rfl)
 subst this
 exact ⟨x,hx,e1,e2⟩
theorem cdOk {lens:List Int} (h:CodesOk lens) (hl:∀ i,0≤lens.getD i 0∧lens.getD i 0≤64):CdOk (codes lens):=
 ⟨codes_syms_nodup lens,fun x hx=>by
  obtain ⟨i,hi,e1,e2⟩:=codes_mem hx
  have:=hl i
  exact ⟨(h.bd x hx).1,by exact far [] [_,_] (.d (.z 0) Y0) [.f Y0 Y1,.d (.z 0) Y1] [1,-1,1] (fm e2 (fm this.1 fz)) rfl,by exact far [] [_,_] (.d Y0 (.z 64)) [.f Y0 Y1,.d Y1 (.z 64)] [1,1,1] (fm e2 (fm this.2 fz)) rfl⟩⟩
end Mine
namespace Mine
open PySem PySem.W PyProof.Rows PySem.Spec PySem.Calls
section
noncomputable def sqz (ns:List Int) (w:Int) (lm ld:List Int):List Int:=wrLen lm++wrLen ld++(bst (padB (encT (codes lm) (codes ld) (toks ns w)))).1
noncomputable def cntMs (ns:List Int) (w:Int):List Int:=bumpI (cntM (toks ns w) (List.replicate 265 0)) 256
noncomputable def cntDs (ns:List Int) (w:Int):List Int:=cntD (toks ns w) (List.replicate 25 0)
theorem getD_bumpI {l:List Int} {i j:Nat} (h:i<l.length):(bumpI l i).getD j 0=if j=i then l.getD i 0+1 else l.getD j 0:=getD_set h
theorem cntM_ge:∀ (ts:List (Int×Int)) (l:List Int) (i:Nat),l.length=265→(∀ p∈ts,TokOk2 p)→l.getD i 0≤(cntM ts l).getD i 0
 | [],_,_,_,_=>Int.le_refl _
 | p::ts,l,i,hl,hok=>by
  have ok:=hok p (.head _)
  have o1:=ok.lo
  have o2:=ok.hi
  show _≤(cntM ts (bumpI l (mainSym p).toNat)).getD i 0
  have:=cntM_ge ts (bumpI l (mainSym p).toNat) i (by rw [bumpI_len,hl]) fun q hq=>hok q (.tail _ hq)
  rw [getD_bumpI (by exact far [_,_] [_] (.b Z0 Z1) [.c Z1 (.n 265),.e Y0 (.z 265),.f X0 Y0] [1,-1,1,1] (fm hl (fm o2 (fm (it2 (far [] [_] (.d (.z 0) Y0) [.d (.z 0) Y0] [1,1] (fm o1 fz) rfl)) fz))) rfl)] at this
  split at this
  ·rename_i e; subst e; exact Int.le_of_lt ‹_›
  ·exact this
theorem cntM_pos:∀ (ts:List (Int×Int)) (l:List Int),l.length=265→(∀ i,0≤l.getD i 0)→(∀ p∈ts,TokOk2 p)→∀ p∈ts,0<(cntM ts l).getD (mainSym p).toNat 0
 | [],_,_,_,_,_,hp=>nomatch hp
 | q::ts,l,hl,h0,hok,p,hp=>by
  have ok:=hok q (.head _)
  have o1:=ok.lo
  have o2:=ok.hi
  have hb:(bumpI l (mainSym q).toNat).length=265:=by rw [bumpI_len,hl]
  show 0<(cntM ts (bumpI l (mainSym q).toNat)).getD _ 0
  rcases List.mem_cons.mp hp with rfl | hp
  ·have:=cntM_ge ts (bumpI l (mainSym p).toNat) (mainSym p).toNat hb fun q hq=>hok q (.tail _ hq)
   rw [getD_bumpI (by exact far [_,_] [_] (.b Z0 Z1) [.c Z1 (.n 265),.e Y0 (.z 265),.f X0 Y0] [1,-1,1,1] (fm hl (fm o2 (fm (it2 (far [] [_] (.d (.z 0) Y0) [.d (.z 0) Y0] [1,1] (fm o1 fz) rfl)) fz))) rfl),if_pos rfl] at this
   have:=h0 (mainSym p).toNat
   exact far [] [_,_] (.e (.z 0) Y0) [.d (.z 0) Y1,.d (.q Y1 (.z 1)) Y0] [1,1,1] (fm this (fm (by assumption) fz)) rfl
  ·refine cntM_pos ts _ hb (fun i=>?_) (fun q hq=>hok q (.tail _ hq)) p hp
   rw [getD_bumpI (by exact far [_,_] [_] (.b Z0 Z1) [.c Z1 (.n 265),.e Y0 (.z 265),.f X0 Y0] [1,-1,1,1] (fm hl (fm o2 (fm (it2 (far [] [_] (.d (.z 0) Y0) [.d (.z 0) Y0] [1,1] (fm o1 fz) rfl)) fz))) rfl)]
   split
   ·have:=h0 (mainSym q).toNat; exact far [] [_] (.d (.z 0) (.q Y0 (.z 1))) [.d (.z 0) Y0] [1,1] (fm this fz) rfl
   ·exact h0 i
theorem cntD_ge:∀ (ts:List (Int×Int)) (l:List Int) (i:Nat),l.length=25→(∀ p∈ts,TokOk2 p)→l.getD i 0≤(cntD ts l).getD i 0
 | [],_,_,_,_=>Int.le_refl _
 | p::ts,l,i,hl,hok=>by
  have ok:=hok p (.head _)
  have o1:=ok.dd
  show _≤(cntD ts (if 0<p.2 then bumpI l (Builtin.Int.intBits p.2) else l)).getD i 0
  split
  ·have:=cntD_ge ts (bumpI l (Builtin.Int.intBits p.2)) i (by rw [bumpI_len,hl]) fun q hq=>hok q (.tail _ hq)
   rw [getD_bumpI (by exact far [_,_] [] (.b Z0 Z1) [.c Z1 (.n 25),.b Z0 (.n 25)] [1,-1,1] (fm hl (fm o1 fz)) rfl)] at this
   split at this
   ·rename_i e; subst e; exact Int.le_of_lt ‹_›
   ·exact this
  ·exact cntD_ge ts l i hl fun q hq=>hok q (.tail _ hq)
theorem cntD_pos:∀ (ts:List (Int×Int)) (l:List Int),l.length=25→(∀ i,0≤l.getD i 0)→(∀ p∈ts,TokOk2 p)→∀ p∈ts,0<p.2→0<(cntD ts l).getD (Builtin.Int.intBits p.2) 0
 | [],_,_,_,_,_,hp,_=>nomatch hp
 | q::ts,l,hl,h0,hok,p,hp,hc=>by
  have ok:=hok q (.head _)
  have o1:=ok.dd
  show 0<(cntD ts (if 0<q.2 then bumpI l (Builtin.Int.intBits q.2) else l)).getD _ 0
  rcases List.mem_cons.mp hp with rfl | hp
  ·rw [if_pos hc]
   have:=cntD_ge ts (bumpI l (Builtin.Int.intBits p.2)) (Builtin.Int.intBits p.2) (by rw [bumpI_len,hl]) fun q hq=>hok q (.tail _ hq)
   rw [getD_bumpI (by exact far [_,_] [] (.b Z0 Z1) [.c Z1 (.n 25),.b Z0 (.n 25)] [1,-1,1] (fm hl (fm o1 fz)) rfl),if_pos rfl] at this
   have:=h0 (Builtin.Int.intBits p.2)
   exact far [] [_,_] (.e (.z 0) Y0) [.d (.z 0) Y1,.d (.q Y1 (.z 1)) Y0] [1,1,1] (fm this (fm (by assumption) fz)) rfl
  ·split
   ·refine cntD_pos ts _ (by rw [bumpI_len,hl]) (fun i=>?_) (fun q hq=>hok q (.tail _ hq)) p hp hc
    rw [getD_bumpI (by exact far [_,_] [] (.b Z0 Z1) [.c Z1 (.n 25),.b Z0 (.n 25)] [1,-1,1] (fm hl (fm o1 fz)) rfl)]
    split
    ·have:=h0 (Builtin.Int.intBits q.2); exact far [] [_] (.d (.z 0) (.q Y0 (.z 1))) [.d (.z 0) Y0] [1,1] (fm this fz) rfl
    ·exact h0 i
   ·exact cntD_pos ts l hl h0 (fun q hq=>hok q (.tail _ hq)) p hp hc
theorem wrGo_len (lens:List Int):∀ (l:List Nat) (b:Int),(wrGo lens b l).length≤4*l.length
 | [],_=>Nat.zero_le _
 | s::r,b=>by
  have h1:=leb_len (s-b)
  have h2:=leb_len (lens.getD s 0)
  have:=wrGo_len lens r s
  unfold wrGo
  rw [List.length_append,List.length_append,List.length_cons]
  exact far [_,_,_,_] [] (.a (.p Z0 (.p Z1 Z2)) (.m 4 (.p Z3 (.n 1)))) [.a Z0 (.n 2),.a Z1 (.n 2),.a Z2 (.m 4 Z3)] [1,1,1,1] (fm h1.2 (fm h2.2 (fm this fz))) rfl
theorem wrLen_len (lens:List Int):(wrLen lens).length≤2+4*(used lens).length:=by
 have h1:=leb_len (used lens).length
 have:=wrGo_len lens (used lens) (-1)
 unfold wrLen
 rw [List.length_append]
 exact far [_,_,_] [] (.a (.p Z0 Z1) (.p (.n 2) (.m 4 Z2))) [.a Z0 (.n 2),.a Z1 (.m 4 Z2)] [1,1,1] (fm h1.2 (fm this fz)) rfl
theorem encT_len {mc dc:List (Int×Int×Int)} (hm:CdOk mc) (hd:CdOk dc):∀ {ts:List (Int×Int)},(∀ p∈ts,TokOk2 p)→(encT mc dc ts).length≤170*ts.length+64
 | [],_=>by have:=codB_len hm 256; show (codB mc 256).length≤_; omega
 | p::ts,h=>by
  have:=encT_len hm hd (ts:=ts) fun q hq=>h q (.tail _ hq)
  have:=tokB_len hm hd (h p (.head _))
  show (tokB mc dc p++encT mc dc ts).length≤_
  rw [List.length_append,List.length_cons]
  exact far [_,_,_] [] (.a (.p Z0 Z1) (.p (.m 170 (.p Z2 (.n 1))) (.n 64))) [.a Z0 (.n 170),.a Z1 (.p (.m 170 Z2) (.n 64))] [1,1,1] (fm this (fm (by assumption) fz)) rfl
section
variable {B:Bs} {nm:NM} {n:Nat} {l:Fr} {own:Led} {K:KE} {d:Addr} {ns:List Int}
theorem squeeze_spec {C:Cx B nm (n+14)} {w:Int} (hs:Hs) (hz:ns.length≤200) (hb:Bytes ns) (hw1:1≤w) (hw2:w≤16777215) (htl:(toks ns w).length≤200) (hok:∀ p∈toks ns w,TokOk2 p)
  (hum:(used (cntMs ns w)).length≤60) (hud:(used (cntDs ns w)).length≤60)
  (hK:∀ r lm ld,Huff (cntMs ns w) lm→Huff (cntDs ns w) ld→K (.ref r) ((r,ilst (sqz ns w lm ld))::(d,ilst ns)::own) hs):CallP C l ((d,ilst ns)::own) (.ref 379) [.ref d,.int w] K:=by
 refine (?_:CallF C l ((d,ilst ns)::own) (.ref 379) [.ref d,.int w] K).call
 refine' fnX [.ref d,.int w] False [] [] ["data","window"] ["tokens","counts","distance_counts","main","distances","writer","bits"] (fun h=>h.elim) ?fa ?fb (fun us s hu H=>?fc) rfl ?fe (fun D _ _ N hN=>?_)
 case fa=>k_is
 case fb=>k_is
 case fe=>rfl
 case fc=>
  have k:=H.keep _ _ (C.hB.X 372 ⟨.type "tuple",none,.seq #[.int 4096 _] 0,#[]⟩ (by k_is))
  obtain ⟨t,rfl⟩:=oksRI hu
  exact ⟨_,hu,BindsTo.of_defaults rfl k rfl rfl rfl⟩
 conv=>whnf
 have ew:max 1 (min w 16777215)=w:=by lia
 refine CallP.sub (Sub.ix [1] 0 _) (tokens_spec (fun _ _=>[]) (by exact nA hz rfl) hb fun T as G ht=>?_)
 rw [ew] at ht
 have hasl:=ht.length
 conv=>whnf
 refine count_symbols_spec [.i 0] (ht.mono fun p hp=>.tail _ (List.mem_append_right _ hp)) (by exact nA htl rfl) (fun p hp=>(hok p hp).toTokOk) fun r m dd=>?_
 have hlm0:(cntMs ns w).length=265:=by unfold cntMs; rw [bumpI_len,cntM_len,List.length_replicate]
 have hld0:(cntDs ns w).length=25:=by unfold cntDs; rw [cntD_len,List.length_replicate]
 have hm0:∀ p∈toks ns w,(mainSym p).toNat∈used (cntMs ns w):=fun p hp=>by
  have ok:=hok p hp
  have o1:=ok.lo
  have o2:=ok.hi
  refine List.mem_filter.mpr ⟨List.mem_range.mpr (by exact far [_,_] [_] (.b Z0 Z1) [.e Y0 (.z 265),.c Z1 (.n 265),.f X0 Y0] [1,1,-1,1] (fm o2 (fm hlm0 (fm (it2 (far [] [_] (.d (.z 0) Y0) [.d (.z 0) Y0] [1,1] (fm o1 fz) rfl)) fz))) rfl),?_⟩
  have h1:=cntM_pos (toks ns w) (List.replicate 265 0) List.length_replicate (fun i=>by rw [getD_replicate0]; exact Int.le_refl _) hok p hp
  have:0<(cntMs ns w).getD (mainSym p).toNat 0:=by
   unfold cntMs
   rw [getD_bumpI (by rw [cntM_len,List.length_replicate]; decide)]
   split
   ·rename_i e; rw [e] at h1; exact far [] [_] (.e (.z 0) (.q Y0 (.z 1))) [.e (.z 0) Y0] [1,1] (fm h1 fz) rfl
   ·exact h1
  exact decide_eq_true this
 have h256:256∈used (cntMs ns w):=by
  refine List.mem_filter.mpr ⟨List.mem_range.mpr (by exact far [_] [] (.b (.n 256) Z0) [.c Z0 (.n 265)] [1,-1] (fm hlm0 fz) rfl),?_⟩
  have h1:=cntM_ge (toks ns w) (List.replicate 265 0) 256 List.length_replicate hok
  rw [getD_replicate0] at h1
  have:0<(cntMs ns w).getD 256 0:=by
   unfold cntMs
   rw [getD_bumpI (by rw [cntM_len,List.length_replicate]; decide),if_pos rfl]; exact far [] [_] (.e (.z 0) (.q Y0 (.z 1))) [.d (.z 0) Y0] [1,1] (fm h1 fz) rfl
  exact decide_eq_true this
 have hd0:∀ p∈toks ns w,0<p.2→Builtin.Int.intBits p.2∈used (cntDs ns w):=fun p hp hc=>by
  have ok:=hok p hp
  have o2:=ok.dd
  refine List.mem_filter.mpr ⟨List.mem_range.mpr (by exact far [_,_] [] (.b Z0 Z1) [.b Z0 (.n 25),.c Z1 (.n 25)] [1,1,-1] (fm o2 (fm hld0 fz)) rfl),?_⟩
  have h1:=cntD_pos (toks ns w) (List.replicate 25 0) List.length_replicate (fun i=>by rw [getD_replicate0]; exact Int.le_refl _) hok p hp hc
  exact decide_eq_true (show 0<(cntDs ns w).getD (Builtin.Int.intBits p.2) 0 from h1)
 unfold sqz at hK
 rw [show bumpI (cntM (toks ns w) (List.replicate 265 0)) 256=cntMs ns w from rfl,show cntD (toks ns w) (List.replicate 25 0)=cntDs ns w from rfl]
 generalize cntMs ns w=cm at *
 generalize cntDs ns w=cd at *
 generalize hts:toks ns w=ts at *
 conv=>whnf
 refine ⟨rfl,?_⟩
 conv=>whnf
 refine CallP.sub (Sub.ix [1] 0 _) (code_lengths_spec [] (by exact far [_] [] (.a Z0 (.n 900)) [.c Z0 (.n 265)] [1,1] (fm hlm0 fz) rfl) fun r1 lm hfm=>?_)
 conv=>whnf
 refine CallP.sub (Sub.ix [3] 0 _) (code_lengths_spec [] (by exact far [_] [] (.a Z0 (.n 900)) [.c Z0 (.n 25)] [1,1] (fm hld0 fz) rfl) fun r2 ld hfd=>?_)
 have hbm:=huff_bd hfm
 have hbd:=huff_bd hfd
 have hbm':∀ i,0≤lm.getD i 0∧lm.getD i 0≤64:=fun i=>by have:=hbm i; lia
 have hbd':∀ i,0≤ld.getD i 0∧ld.getD i 0≤64:=fun i=>by have:=hbd i; lia
 have hum':=huff_used hfm
 have hud':=huff_used hfd
 have hwm:=wrLen_len lm
 have hwd:=wrLen_len ld
 rw [hum'] at hwm
 rw [hud'] at hwd
 have hlm1:=hfm.len
 have hld1:=hfd.len
 have okm:=cdOk (huff_codesOk hfm) hbm'
 have okd:=cdOk (huff_codesOk hfd) hbd'
 conv=>whnf
 refine bw_new [] fun wx wdx wo=>?_
 conv=>whnf
 refine CallP.sub (Sub.ix [0,0,0,2] 0 _) (write_lengths_spec [] (by exact far [_,_] [] (.a Z0 (.n 900)) [.c Z1 (.n 265),.c Z0 Z1] [1,1,1] (fm hlm0 (fm hlm1 fz)) rfl) hbm' (by decide) ?_)
 rw [List.nil_append]
 conv=>whnf
 refine CallP.sub (Sub.ix [0,0,0,1] 0 _) (write_lengths_spec [] (by exact far [_,_] [] (.a Z0 (.n 900)) [.c Z1 (.n 25),.c Z0 Z1] [1,1,1] (fm hld0 (fm hld1 fz)) rfl) hbd' (by exact far [_,_] [] (.b Z0 (.n 10000)) [.a Z1 (.n 60),.a Z0 (.p (.n 2) (.m 4 Z1))] [1,4,1] (fm hum (fm hwm fz)) rfl) ?_)
 conv=>whnf
 refine bitw_new [] fun bx bdx bo=>?_
 conv=>whnf
 refine CallP.sub (Sub.ix [7] 0 _) (codes_spec (fun _ _=>[]) (by exact far [_,_] [] (.a Z0 (.n 900)) [.c Z1 (.n 265),.c Z0 Z1] [1,1,1] (fm hlm0 (fm hlm1 fz)) rfl) (by rw [hum']; exact nD hum rfl) (fun i=>(hbm' i).2) (huff_codesOk hfm) fun md kvm Gm hcm=>?_)
 conv=>whnf
 refine CallP.sub (Sub.ix [8] 0 _) (codes_spec (fun _ _=>[]) (by exact far [_,_] [] (.a Z0 (.n 900)) [.c Z1 (.n 25),.c Z0 Z1] [1,1,1] (fm hld0 (fm hld1 fz)) rfl) (by rw [hud']; exact nD hud rfl) (fun i=>(hbd' i).2) (huff_codesOk hfd) fun dcd kvd Gd hcd=>?_)
 have hen:=encT_len okm okd hok
 have hmem:∀ p∈ts,∃ x∈codes lm,x.1=mainSym p:=fun p hp=>by
  have:=hm0 p hp
  rw [← hum'] at this
  obtain ⟨x,hx,e,_⟩:=codes_has this
  have:=(hok p hp).lo
  exact ⟨x,hx,by exact Int.le_antisymm (far [_] [_,_] (.d Y0 Y1) [.f Y0 X0,.f X0 Y1] [1,1,1] (fm e (fm (it2 (far [] [_] (.d (.z 0) Y0) [.d (.z 0) Y0] [1,1] (fm this fz) rfl)) fz)) rfl) (far [_] [_,_] (.d Y0 Y1) [.f Y1 X0,.d Y0 X0] [1,-1,1] (fm e (fm (it1 _) fz)) rfl)⟩
 have hend:∃ x∈codes lm,x.1=256:=by
  rw [← hum'] at h256
  obtain ⟨x,hx,e,_⟩:=codes_has h256
  exact ⟨x,hx,by omega⟩
 have hdmem:∀ p∈ts,0<p.2→∃ x∈codes ld,x.1=(Builtin.Int.intBits p.2:Nat):=fun p hp hc=>by
  have:=hd0 p hp hc
  rw [← hud'] at this
  obtain ⟨x,hx,e,_⟩:=codes_has this
  exact ⟨x,hx,e⟩
 clear hm0 hd0 h256
 conv=>whnf
 refine CallP.sub (Sub.ix [4,4,4] 0 _) (write_tokens_spec (ts:=ts) [.i 7,.i 8,.i 0,.i 1] (at_mem (j:=10) rfl) (at_mem (j:=2) rfl) (at_mem (j:=0) rfl) (ht.mono fun p hp=>List.mem_append_right [_,_,_,_,_,_,_,_,_,_,_,_,_] (List.mem_append_left _ (List.mem_append_left _ (List.mem_append_right _ hp)))) (hcm.mono fun p hp=>List.mem_append_right [_,_,_,_,_,_,_,_,_,_,_,_,_] (List.mem_append_left _ (List.mem_append_right _ hp))) (hcd.mono fun p hp=>List.mem_append_right [_,_,_,_,_,_,_,_,_,_,_,_,_] (List.mem_append_right _ hp)) okm okd htl (Nat.zero_le _) hok hmem hend hdmem ?_)
 rw [List.nil_append]
 have hbl:=bst_len (padB (encT (codes lm) (codes ld) ts))
 have hpl:(padB (encT (codes lm) (codes ld) ts)).length≤(encT (codes lm) (codes ld) ts).length+8:=by
  unfold padB padN
  rw [List.length_append,List.length_replicate]
  exact far [_,_] [] (.a (.p Z0 Z1) (.p Z0 (.n 8))) [.b Z1 (.n 8)] [1,1] (fm (nm1 _ _ rfl) fz) rfl
 have hwl:(wrLen lm++wrLen ld).length=(wrLen lm).length+(wrLen ld).length:=List.length_append
 have hK:=fun r=>hK r lm ld hfm hfd
 generalize encT (codes lm) (codes ld) ts=eb at *
 conv=>whnf
 refine ⟨⟨rfl,rfl⟩,?_⟩
 conv=>whnf
 refine ⟨⟨rfl,rfl⟩,?_⟩
 conv=>whnf
 refine bitw_finish [.l (wrLen lm++wrLen ld),.l (bst (padB eb)).1] (by exact far [_,_] [] (.b Z0 (.n 90000)) [.a Z1 (.n 200),.a Z0 (.p (.m 170 Z1) (.n 64))] [1,170,1] (fm htl (fm hen fz)) rfl) ?_
 conv=>whnf
 refine ⟨⟨(at_mem (j:=7) rfl),(at_mem (j:=0) rfl),by exact far [_,_,_,_,_,_,_,_,_] [] (.a (.p Z0 Z1) (.n 1000000)) [.a Z2 (.n 60),.a Z3 (.n 60),.a Z4 (.n 200),.a Z5 (.p (.n 2) (.m 4 Z2)),.a Z6 (.p (.n 2) (.m 4 Z3)),.c Z0 (.p Z5 Z6),.a Z7 (.p (.m 170 Z4) (.n 64)),.a Z1 Z8,.a Z8 (.p Z7 (.n 8))] [1,4,4,170,1,1,1,1,1,1] (fm hum (fm hud (fm htl (fm hwm (fm hwd (fm hwl (fm hen (fm hbl (fm hpl fz))))))))) rfl⟩,fun R=>?_⟩
 conv=>whnf
 exact hN _ _ hs _ (hK R) ((Sub.pick .head (.pick .head (.pick .head ((Sub.left2 own G Gm).trans (Sub.left _ _))))).trans (Sub.ix [14,0,12] 12 _))
end
end
section
section
variable {B:Bs} {nm:NM} {n:Nat} {l:Fr} {led:Led} {K:KE} {d:Addr} {ns:List Int}
theorem law_same_spec {C:Cx B nm (n+1)} {p q:Nat} (hs:Hs) (hd:(d,ilst ns)∈led) (hz:ns.length<100000) (hp:p<q) (hq:q≤ns.length)
  (hK:K (.int (run ns p q (min 257 (ns.length-q)):Nat)) led hs):CallP C l led (.ref 427) [.ref d,.int p,.int q] K:=by
 refine' fnK False [] [] ["data","one","other"] ["count"] (fun h=>h.elim) ?fa ?fb ?fc rfl ?fe (fun D _ _ N hN=>?_)
 (case fa=>k_is); (case fb=>k_is); (case fc=>exact fun _ _ _ _=>BindsTo.of_eq rfl); (case fe=>rfl)
 have hm1:min 257 (ns.length-q)≤257∧min 257 (ns.length-q)≤ns.length-q:=⟨Nat.min_le_left _ _,Nat.min_le_right _ _⟩
 have hm2:min 257 (ns.length-q)=257∨min 257 (ns.length-q)=ns.length-q:=by lia
 generalize min 257 (ns.length-q)=m at *
 conv=>whnf
 refine StP.while_ (ι:=Nat) (fun k c=>k=m-c∧c≤m∧run ns p q m=runGo ns p q (m-c) c) (fun c=>[("data",.ref d),("one",.int p),("other",.int q),("count",.int (c:Nat))]) (fun _=>(C.env.locals,.ns l)::led) m 0 (fun _=>[.l ns,.l ns,.l ns]) ⟨rfl,Nat.zero_le _,rfl⟩ (fun k c hI N2 hN2=>?_)
 have hc:=hI.2.1
 have hd':(d,ilst ns)∈(C.env.locals,OS.ns l)::led:=.tail _ hd
 have hex:¬ (c<m∧ns.getD (p+c) 0=ns.getD (q+c) 0)→K (.int (c:Nat)) led hs:=fun h=>by
  have hr:run ns p q m=c:=by
   rw [hI.2.2]
   by_cases hmc:c<m
   ·rw [show m-c=(m-(c+1))+1 by exact Nat.le_antisymm (far [_,_,_,_] [] (.a Z0 (.p Z1 (.n 1))) [.a Z2 (.p Z1 (.p Z3 (.n 1))),.c (.p Z0 Z3) Z2] [1,1,1] (fm (ns1 _ _) (fm (ns2 (far [_,_] [] (.a Z0 Z1) [.b Z0 Z1] [1,1] (fm hmc fz) rfl)) fz)) rfl) (far [_,_,_,_] [] (.a (.p Z0 (.n 1)) Z1) [.a Z2 (.p Z1 Z3),.c (.p Z0 (.p Z3 (.n 1))) Z2] [1,1,1] (fm (ns1 _ _) (fm (ns2 (far [_,_] [] (.a (.p Z0 (.n 1)) Z1) [.b Z0 Z1] [1,1] (fm hmc fz) rfl)) fz)) rfl)]
    unfold runGo
    exact if_neg fun e=>h ⟨hmc,e⟩
   ·rw [Nat.sub_eq_zero_of_le (Nat.le_of_not_lt hmc)]; rfl
  rw [← hr]; exact hK
 conv=>whnf
 refine ⟨⟨hd',by exact nB hz rfl⟩,?_⟩
 conv=>whnf
 refine ⟨fun h1=>?_,fun h1=>?_⟩
 ·have h1:q+c<ns.length:=Int.ofNat_lt.mp h1
  conv=>whnf
  refine ⟨⟨hd',idx2 (by exact far [_,_,_,_] [] (.b (.p Z0 Z1) Z2) [.b Z0 Z3,.b (.p Z3 Z1) Z2] [1,1,1] (fm hp (fm h1 fz)) rfl) (by exact nB hz rfl)⟩,?_⟩
  conv=>whnf
  refine ⟨⟨hd',idx2 h1 (by exact nB hz rfl)⟩,?_⟩
  conv=>whnf
  refine ⟨fun h2=>?_,fun h2=>?_⟩
  ·have h2:ns.getD (p+c) 0=ns.getD (q+c) 0:=h2
   conv=>whnf
   refine ⟨fun h3=>?_,fun h3=>?_⟩
   ·have h3:c<257:=Int.ofNat_lt.mp h3
    have hcm:c<m:=by lia
    conv=>whnf
    exact hN2 (m-(c+1)) (c+1) _ (by rw [hI.1]; exact far [_,_,_,_] [] (.b Z0 Z1) [.a Z2 (.p Z1 Z3),.c (.p Z0 (.p Z3 (.n 1))) Z2] [1,1,1] (fm (ns1 _ _) (fm (ns2 (far [_,_] [] (.a (.p Z0 (.n 1)) Z1) [.b Z0 Z1] [1,1] (fm hcm fz) rfl)) fz)) rfl) ⟨rfl,hcm,by rw [hI.2.2,show m-c=(m-(c+1))+1 by exact Nat.le_antisymm (far [_,_,_,_] [] (.a Z0 (.p Z1 (.n 1))) [.a Z2 (.p Z1 (.p Z3 (.n 1))),.c (.p Z0 Z3) Z2] [1,1,1] (fm (ns1 _ _) (fm (ns2 (far [_,_] [] (.a Z0 Z1) [.b Z0 Z1] [1,1] (fm hcm fz) rfl)) fz)) rfl) (far [_,_,_,_] [] (.a (.p Z0 (.n 1)) Z1) [.a Z2 (.p Z1 Z3),.c (.p Z0 (.p Z3 (.n 1))) Z2] [1,1,1] (fm (ns1 _ _) (fm (ns2 (far [_,_] [] (.a (.p Z0 (.n 1)) Z1) [.b Z0 Z1] [1,1] (fm hcm fz) rfl)) fz)) rfl)]; exact if_pos h2⟩ (Sub.refl _)
   ·have h3:¬ c<257:=fun q=>h3 (Int.ofNat_lt.mpr q)
    have hK:=hex (by lia)
    conv=>whnf
    exact hN _ _ hs _ hK (Sub.refl _)
  ·have hK:=hex fun q=>h2 q.2
   conv=>whnf
   exact hN _ _ hs _ hK (Sub.refl _)
 ·have h1:¬ q+c<ns.length:=fun q=>h1 (Int.ofNat_lt.mpr q)
  have hK:=hex (by lia)
  conv=>whnf
  exact hN _ _ hs _ hK (Sub.refl _)
end
end
section
section
variable {B:Bs} {nm:NM} {n:Nat} {C:Cx B nm n} {l:Fr} {led:Led}
theorem SiP.lst {d:Addr} {vs:List VS} {v:VS} {K:Led→Hs→Prop} (k:Nat) (hs:Hs) (j:Nat) (hj:led[j]?=some (d,.lst vs)) (hk:k<vs.length) (hz:vs.length<1000000) (h:setL (.lst (vs.set k v)) led j fun led'=>K led' hs):SiP C l led (.ref d) (.int k) v K:=⟨fun Q s u w x hu hw hx H kk=>by
 cases hu
 obtain ⟨t,e⟩:=hw
 cases e
 obtain ⟨led',U,q⟩:=setL_ok hj h
 exact l_set (k:=(k:Int)) H (.tail U) (Int.natCast_nonneg k) (Int.ofNat_lt.mpr hk) (Nat.lt_trans hz (by decide)) hx fun s' H'=>kk _ _ _ q H'⟩
theorem CallP.popI {d:Addr} {z:Int} {cs:List Int} {K:KE} (hs:Hs) {j:Nat} (hj:led[j]?=some (d,ilst (z::cs))) (hz:cs.length≤999999) (h:setL (ilst cs) led j fun led'=>K (.int z) led' hs):CallP C l led (.builtin "list.pop") [.ref d,.int 0] K:=⟨fun Q s us hu H k=>by
 obtain ⟨t,rfl⟩:=oksRI hu
 obtain ⟨led',U,q⟩:=setL_ok hj h
 exact l_pop_at (k:=0) (v:=.int z) (vs:=.int z::cs.map .int) H (.tail U) (by rw [List.length_cons,List.length_map]; exact far [_] [] (.a (.p Z0 (.n 1)) (.n 1000000)) [.a Z0 (.n 999999)] [1,1] (fm hz fz) rfl) rfl fun s' H' t=>k _ _ _ _ _ q ⟨t,rfl⟩ H'⟩
end
noncomputable def Pool (p c:Addr) (P:Led):Prop:=∃ a b cs,P=[(p,.lst [.ref c,.int a,.int b]),(c,ilst cs)]∧cs.length≤63
section
variable {B:Bs} {nm:NM} {n:Nat} {l:Fr} {own P:Led} {K:KE} {p c:Addr}
theorem draw_spec {C:Cx B nm (n+2)} {m:Nat} (hs:Hs) (hP:Pool p c P) (h1:1≤m) (h2:m≤1000)
  (hK:∀ (r:Nat) P',r<m→Pool p c P'→K (.int (r:Nat)) (P'++own) hs):CallP C l (P++own) (.ref 415) [.ref p,.int m] K:=by
 obtain ⟨a,b,cs,rfl,hcs⟩:=hP
 have hK:∀ (x a b:Int) cs,cs.length≤63→K (.int (x % m)) ((p,.lst [.ref c,.int a,.int b])::(c,ilst cs)::own) hs:=fun x a b cs h3=>by
  have h0:0≤x % m:=Int.emod_nonneg _ (by lia)
  have:=hK (x % m).toNat _ (by have:=Int.emod_lt_of_pos x (b:=m) (by exact Int.ofNat_lt.mpr ‹_›); lia) ⟨a,b,cs,rfl,h3⟩
  rwa [Int.toNat_of_nonneg h0] at this
 refine' fnK False [] [.j] ["pool","limit"] ["rest_of_cell"] (fun h=>h.elim) ?fa ?fb ?fc rfl ?fe (fun D _ _ N hN=>?_)
 (case fa=>k_is); (case fb=>k_is); (case fc=>exact fun _ _ _=>BindsTo.of_eq rfl); (case fe=>rfl)
 conv=>whnf
 refine StP.join (ι:=Int×Int×List Int) (fun z=>z.2.2.length≤63) (fun _=>[("pool",.ref p),("limit",.int m),("rest_of_cell",.any)]) (fun z=>(C.env.locals,.ns l)::(p,.lst [.ref c,.int z.1,.int z.2.1])::(c,ilst z.2.2)::own) [.i 1,.b [.i 1,.l cs,.l [],.b [.i 2] [.i 2,.m]] []] (fun _=>[.i 1,.x]) (fun N2 hN2=>?_) (fun z hI=>?_)
 ·conv=>whnf
  refine ⟨rfl,?_⟩
  conv=>whnf
  refine ⟨fun h3=>?_,fun h3=>?_⟩
  ·conv=>whnf
   refine ⟨rfl,?_⟩
   conv=>whnf
   intro e0
   conv=>whnf
   refine ⟨⟨by lia,(at_mem (j:=3) rfl),(at_mem (j:=0) rfl)⟩,?_⟩
   refine ⟨fun hc=>?_,fun hc=>?_⟩
   ·conv=>whnf
    refine ⟨rfl,?_⟩
    conv=>whnf
    refine ⟨IntMulOk.of_right (intBits_le_64 (by decide) (by decide)),?_⟩
    conv=>whnf
    refine ⟨by decide,?_⟩
    conv=>whnf
    refine SiP.lst 2 [.i 2] 2 rfl (by show (2:Nat)<3; lia) (by show (3:Nat)<1000000; decide) ?_
    conv=>whnf
    refine ⟨rfl,?_⟩
    conv=>whnf
    refine ⟨⟨by decide,PyProof.noPylong_small (by decide)⟩,?_⟩
    conv=>whnf
    refine ⟨by exact Int.ofNat_lt.mpr ‹_›,?_⟩
    conv=>whnf
    exact hN _ _ hs _ (hK _ a _ cs hcs) (.skip (.refl _))
   ·obtain ⟨z0,cs,rfl⟩:∃ z cs',cs=z::cs':=by
     cases cs with
     | nil=>exact absurd rfl hc
     | cons z cs'=>exact ⟨z,cs',rfl⟩
    have hcs:cs.length+1≤63:=hcs
    conv=>whnf
    refine ⟨rfl,?_⟩
    conv=>whnf
    refine ⟨⟨_,(at_mem (j:=3) rfl)⟩,?_⟩
    conv=>whnf
    refine CallP.popI [] (j:=3) rfl (by exact far [_] [] (.a Z0 (.n 999999)) [.a (.p Z0 (.n 1)) (.n 63)] [1,1] (fm hcs fz) rfl) ?_
    conv=>whnf
    refine SiP.lst 1 [] 2 rfl (by show (1:Nat)<3; lia) (by show (3:Nat)<1000000; decide) ?_
    conv=>whnf
    exact hN2 (_,b,cs) _ (by show cs.length≤63; exact Nat.le_of_lt ‹_›) (.skip (.refl _))
  ·conv=>whnf
   exact hN2 (a,b,cs) _ hcs (Sub.refl _)
 ·conv=>whnf
  refine ⟨rfl,?_⟩
  conv=>whnf
  refine ⟨fun h3=>?_,fun h3=>?_⟩
  ·conv=>whnf
   refine ⟨⟨by exact Int.ofNat_lt.mpr ‹_›,PyProof.noPylong_small (by exact nD h2 rfl)⟩,?_⟩
   conv=>whnf
   refine SiP.lst 1 [] 1 rfl (by show (1:Nat)<3; lia) (by show (3:Nat)<1000000; decide) ?_
   conv=>whnf
   refine ⟨by exact Int.ofNat_lt.mpr ‹_›,?_⟩
   conv=>whnf
   exact hN _ _ hs _ (hK _ _ _ z.2.2 hI) (Sub.refl _)
  ·conv=>whnf
   refine SiP.lst 1 [] 1 rfl (by show (1:Nat)<3; lia) (by show (3:Nat)<1000000; decide) ?_
   conv=>whnf
   refine ⟨by exact Int.ofNat_lt.mpr ‹_›,?_⟩
   conv=>whnf
   exact hN _ _ hs _ (hK _ _ _ z.2.2 hI) (Sub.refl _)
end
end
section
theorem list_self {B:Bs} {d:Addr} {vs:List VS}:Self (itrList B d vs):=fun _ _ _ _ _ _ H h=>it_listI H h
theorem ints_item {B:Bs} {r:Addr} {ys:List Int} {i:Nat} (h:i<(itrList B r (ys.map .int)).n):(itrList B r (ys.map .int)).item i=VS.int (ys.getD i 0)∧nany (VS.int (ys.getD i 0))=true:=by
 have h:i<ys.length:=by
  have:i<(ys.map VS.int).length:=h
  rwa [List.length_map] at this
 refine ⟨?_,rfl⟩
 show ((ys.map VS.int)[i]?).getD .any=_
 rw [List.getElem?_map,List.getD_eq_getElem?_getD,List.getElem?_eq_getElem h]; rfl
section
variable {B:Bs} {nm:NM} {n:Nat} {C:Cx B nm n} {l:Fr} {led:Led} {K:KE}
noncomputable def kS3 (B:Bs) (o:VS) (K:KE):KE:=fun vu led hs=>match o,vu with
 | .ref d,.int b=>0≤b∧∃ vs,vs.length≤1000000∧((d,OS.lst vs)∈led∨∃ zs,B.base.IsList d zs∧oks vs zs.toList)∧∀ r,K (.ref r) ((r,.lst (vs.take b.toNat))::led) hs
 | _,_=>False
theorem EvP.slice {value upper:Expr} {p pos:Pos} (hs:Hs) (ht:∀ o r,letTemporaryGo value o r=pure ()) (h:mrun C 1000 (.E l led hs value fun o led1 hs1=>mrun C 1000 (.E l led1 hs1 upper (kS3 B o K)))):EvP C l led (.Subscript value (.Slice none (some upper) none p) pos) K:=⟨fun Q s H k=>by
 refine l_sliceB (mrun_ok C _ _ h _ s H fun o led1 hs1 s1 u q hu H1=>mrun_ok C _ _ q _ s1 H1 fun vu led2 hs2 s2 w q2 hw H2=>?_) ht
 unfold kS3 at q2
 split at q2
 ·cases hu
  obtain ⟨t,e⟩:=hw
  cases e
  obtain ⟨hb,vs,hz,hm,q⟩:=q2
  have fin:∀ r s',St B ((r,.lst (vs.take _))::(C.env.locals,.ns l)::led2) s'→Q (.ref r) s':=fun r s' H'=>k _ _ _ _ _ (q r) rfl (Cx.St.swap H')
  rcases hm with hm | ⟨zs,⟨o,h1,h2⟩,hzs⟩
  ·obtain ⟨xs,nn,hx,hok⟩:=H2.isL (.tail _ hm)
   exact ⟨_,vs,_,_,_,xs,rfl,rfl,hb,hz,H2,isList_of hx,hok,fin⟩
  ·exact ⟨_,vs,_,_,_,zs,rfl,rfl,hb,hz,H2,⟨o,H2.keep _ _ h1,h2⟩,hzs,fin⟩
 ·exact q2.elim⟩
end
section
variable {B:Bs} {nm:NM} {n:Nat} {l:Fr} {own:Led} {K:KE} {sc:Addr} {xs:List Int}
theorem pool_spec {C:Cx B nm (n+2)} (hs:Hs) {zs:Array Value} (hsc:B.base.IsList sc zs) (hzs:oks (xs.map .int) zs.toList) (hz:xs.length≤1000)
  (hK:∀ p c P,Pool p c P→K (.ref p) (P++own) hs):CallP C l own (.ref 420) [.ref sc] K:=by
 refine' fnK False [] [] ["script"] ["cells"] (fun h=>h.elim) ?fa ?fb ?fc rfl ?fe (fun D _ _ N hN=>?_)
 (case fa=>k_is); (case fb=>k_is); (case fc=>exact fun _ _=>BindsTo.of_eq rfl); (case fe=>rfl)
 have hy:(xs.take 63).length≤63:=by rw [List.length_take]; lia
 have hm:(xs.map VS.int).take 63=(xs.take 63).map .int:=List.map_take.symm
 conv=>whnf
 refine StP.compU D [] [] rfl rfl rfl (fun _=>rfl) ?_
 conv=>whnf
 refine EvP.slice [] (fun _ _=>rfl) ?_
 conv=>whnf
 refine ⟨by decide,xs.map .int,by rw [List.length_map]; exact nA hz rfl,.inr ⟨zs,hsc,hzs⟩,fun r=>?_⟩
 rw [show (63:Int).toNat=63 from rfl,hm]
 generalize xs.take 63=ys at *
 refine CmU.go (ι:=Unit) D (itrList B r (ys.map .int)) [("cell",.any)] (fun i vs _=>vs=(ys.take i).map .int) (fun _=>(r,ilst ys)::(C.env.locals,.ns l)::own) () (fun i=>.int (ys.getD i 0)) (fun i vs z=>[]) (fun _=>[.i 0,.l ys]) rfl rfl ⟨rfl,fun p hp=>by rw [List.mem_singleton.mp hp]⟩ (fun i h=>ints_item h) (IterP.list (.head _)) list_self let_name rfl (fun _ _ _ q _=>List.mem_append_right q (.tail _ (.head _))) (fun i vs z hI=>?_) (fun i vs z hi hI ia a D' N1 N0 h1 h0=>?_) (fun D' vs z hI=>?_)
 ·rw [hI,List.length_map,List.length_take]
  lia
 ·have hi:i<ys.length:=by
   have:i<(ys.map VS.int).length:=hi
   rwa [List.length_map] at this
  conv=>whnf
  refine CallP.intI [] ?_
  conv=>whnf
  refine ⟨rfl,?_⟩
  refine h1 _ () _ _ rfl ?_ (Sub.refl _)
  rw [hI,List.take_add_one,List.getElem?_eq_getElem hi,List.map_append,List.getD_eq_getElem?_getD,List.getElem?_eq_getElem hi]; rfl
 ·have e:OS.lst vs=ilst ys:=by
   rw [hI]
   show OS.lst ((ys.take (ys.map VS.int).length).map VS.int)=ilst ys
   rw [List.length_map,List.take_length]; rfl
  rw [e]
  clear e hI
  conv=>whnf
  refine CallP.sum [] (.head _) ?_
  conv=>whnf
  refine ⟨by decide,?_⟩
  conv=>whnf
  intro pa
  conv=>whnf
  exact hN _ _ hs _ (hK pa D' _ ⟨0,_,ys,rfl,hy⟩) (Sub.ix [3,0,0] 1 _)
end
end
section
noncomputable def wm (ns:List Int) (a:Nat):Nat:=min 257 (ns.length-a)
noncomputable def Fits (ns:List Int) (w:Int):Nat→List (Int×Int)→Prop
 | a,[]=>a=ns.length
 | a,p::r=>a<ns.length∧((p.2=0∧(∀ q:Nat,(a:Int)-w≤q→q<a→run ns q a (wm ns a)<3)∧p.1=ns.getD a 0∧Fits ns w (a+1) r) ∨
   ∃ q:Nat,(a:Int)-w≤q∧q<a∧3≤run ns q a (wm ns a)∧(∀ q':Nat,(a:Int)-w≤q'→q'<a→run ns q' a (wm ns a)≤run ns q a (wm ns a)∧(run ns q' a (wm ns a)=run ns q a (wm ns a)→q'≤q)) ∧
    p.1=(run ns q a (wm ns a):Nat)∧p.2=((a-q:Nat):Int)∧Fits ns w (a+run ns q a (wm ns a)) r)
theorem StP.augC {B:Bs} {nm:NM} {n:Nat} {C:Cx B nm n} {l:Fr} {led:Led} {K:KS} {x:Str} {e:Expr} {p pos:Pos} {op:Operator} {k:Int} {a:Addr} (hs:Hs) (hm:(a,OS.cell (.int k))∈led) (hc:C.env.cells.lookup x=some a) (hn:nm.lookup x=some .cell)
  (h:mrun C 1000 (.E l led hs e (kUN C l x op (.int k) K))):StP C l led (.AugAssign (.Name x p) op e pos) K:=⟨fun Q s H kk=>by
 refine wpAny_AugAssign_Name (ldCn H (.tail _ hm) hc (fun t=>mrun_ok C _ _ h _ s H fun v led1 hs1 s1 u q hu H1=>?_) C.hk (C.kind hn))
 cases v with
 | int j=>
  obtain ⟨t',e3⟩:=hu
  cases e3
  have q:ipI op _ j (fun w=>kAN C l _ K w led1 hs1):=q
  exact ipI_ok H1 q fun v u s' q2 hu H2=>kAN_ok q2 hu H2 kk
 | _=>exact q.elim⟩
theorem let_tup {B:Bs} {d:Addr} {vs:List VS} {es:List Expr} {x:Nat} {p:Pos}:LetGo (itrList B d vs) (.Tuple es x p):=fun _ _ _ _ _ _ _ _ _ H h=>list_let H h
section
variable {B:Bs} {nm:NM} {n:Nat} {l:Fr} {own:Led} {K:KE} {d T:Addr} {ns:List Int} {as:List Addr} {ts:List (Int×Int)}
theorem hold_spec {C:Cx B nm (n+4)} {w:Int} (hs:Hs) (ht:Tups own as ts) (hz:ns.length≤900) (htz:ts.length≤900) (hw:1≤w) (hfit:Fits ns w 0 ts)
  (hK:K (.bool true) ((d,ilst ns)::(T,.lst (as.map .ref))::own) hs):CallP C l ((d,ilst ns)::(T,.lst (as.map .ref))::own) (.ref 432) [.ref d,.int w,.ref T] K:=by
 refine' fnC (fun _=>[.i 1]) ["data","reach_back","tokens"] [("reach_back",.int w),("tokens",.ref T),("first",.any),("second",.any),("options",.any)] [("data",0,.ref d),("spot",1,.any),("longest",2,.any)] (fun L r=>(L+1+0,.cell (.ref d))::(L+1+1,.cell .any)::(L+1+2,.cell .any)::r) (fun _ _=>rfl) ?fa ?fb ?fc rfl ?fk (fun us hu=>?fl) (fun L us hu=>?fm) (by show ([0,1,2]:List Nat).Nodup; decide) ?fe (fun L D hD _ N hN=>?_)
 (case fa=>k_is); (case fb=>k_is); (case fc=>exact fun _ _ _=>rfl); (case fe=>rfl)
 case fk=>
  intro L y hy
  rcases List.mem_cons.mp hy with rfl | hy
  ·exact Or.inr ⟨rfl,rfl⟩
  ·rcases List.mem_cons.mp hy with rfl | hy
   ·exact Or.inl rfl
   ·rw [List.mem_singleton.mp hy]; exact Or.inl rfl
 case fl=>
  ·obtain ⟨t,rfl⟩:=oksRIR hu
   refine nsOk.mk (fun p hp=>?_) (nodupB_ok rfl) (fun y hy=>?_)
   ·rcases List.mem_cons.mp hp with rfl | hp
    ·exact ⟨_,rfl⟩
    ·rcases List.mem_cons.mp hp with rfl | hp
     ·exact rfl
     ·rcases List.mem_cons.mp hp with rfl | hp
      ·trivial
      ·rcases List.mem_cons.mp hp with rfl | hp
       ·trivial
       ·rw [List.mem_singleton.mp hp]; trivial
   ·show (if y = "tokens" then some (Value.ref T) else if y = "reach_back" then some (Value.int w t) else none)=none
    rw [if_neg,if_neg]
    ·intro q
     subst q
     exact hy (.head _)
    ·intro q
     subst q
     exact hy (.tail _ (.head _))
 case fm=>
  ·obtain ⟨t,rfl⟩:=oksRIR hu
   intro y hy
   rcases List.mem_cons.mp hy with rfl | hy
   ·exact ⟨rfl,rfl⟩
   ·rcases List.mem_cons.mp hy with rfl | hy
    ·exact ⟨rfl,trivial⟩
    ·rw [List.mem_singleton.mp hy]; exact ⟨rfl,trivial⟩
 have hc0:D.env.cells.lookup (Str.ofString "data")=some (L+1+0):=by rw [hD]; rfl
 have hc1:D.env.cells.lookup (Str.ofString "spot")=some (L+1+1):=by rw [hD]; rfl
 have hc2:D.env.cells.lookup (Str.ofString "longest")=some (L+1+2):=by rw [hD]; rfl
 have hasl:=ht.length
 conv=>whnf
 refine ⟨hc1,?_⟩
 conv=>whnf
 refine StP.for_ [] (fun _=>rfl) ?_
 conv=>whnf
 refine FoP.go (ι:=Nat×VS×VS×VS×VS) (itrList B T (as.map .ref)) (fun i c=>Fits ns w c.1 (ts.drop i))
  (fun c=>[("reach_back",.int w),("tokens",.ref T),("first",c.2.1),("second",c.2.2.1),("options",c.2.2.2.1)]) (fun c=>(L+1+0,.cell (.ref d))::(L+1+1,.cell (.int (c.1:Nat)))::(L+1+2,.cell c.2.2.2.2)::(C.env.locals,.ns l)::(d,ilst ns)::(T,.lst (as.map .ref))::own) (0,.any,.any,.any,.any)
  (fun i=>.ref (as.getD i 0)) (fun i c=>[.t [.int (ts.getD i (0,0)).1,.int (ts.getD i (0,0)).2],.i 2,.i 1,.l ns]) (fun _=>[.i 1,.i 0,.l ns]) (fun i h=>refs_item h) (IterP.list (List.mem_append_right [_,_,_,_,_] (.head _))) hfit (fun _ _ _=>List.mem_append_right [_,_,_,_,_,_] (.head _)) (fun _ _ _ _ _ _ _ _ H h=>list_let H h) (fun i c hi hI ia N2 hN2=>?_) (fun c hI=>?_)
 ·have hi:i<as.length:=(List.length_map (f:=VS.ref) (as:=as)) ▸ hi
  have hit:i<ts.length:=hasl ▸ hi
  have hg:=ht.get hit
  have hdr:ts.drop i=ts.getD i (0,0)::ts.drop (i+1):=by
   rw [List.drop_eq_getElem_cons hit,List.getD_eq_getElem?_getD,List.getElem?_eq_getElem hit]; rfl
  rw [hdr] at hI
  generalize ts.getD i (0,0)=p at *
  generalize as.getD i 0=pa at *
  obtain ⟨a,fv,sv,ov,lv⟩:=c
  obtain ⟨hal,hf⟩:=hI
  dsimp only at hal hf
  conv=>whnf
  refine ⟨List.mem_append_right [_,_,_,_,_,_,_] hg,?_⟩
  conv=>whnf
  refine ⟨hc1,?_⟩
  conv=>whnf
  refine ⟨hc0,?_⟩
  conv=>whnf
  refine ⟨⟨(at_mem (j:=5) rfl),by exact nD hz rfl⟩,?_⟩
  conv=>whnf
  refine ⟨fun h=>absurd hal (Nat.not_lt.mpr (Int.ofNat_le.mp h)),fun _=>?_⟩
  conv=>whnf
  obtain ⟨lo,hlo⟩:∃ lo:Nat,max 0 ((a:Int)-w)=lo:=⟨(max 0 ((a:Int)-w)).toNat,by omega⟩
  refine StP.compU D [("spot",L+1+1),("data",L+1+0)] [.i 2,.x,.i 2] rfl rfl (by rw [hD]; rfl) (fun _=>rfl) ?_
  conv=>whnf
  refine ⟨hc1,?_⟩
  conv=>whnf
  refine ⟨hc1,?_⟩
  conv=>whnf
  refine CallP.range2 [] fun r=>?_
  refine CmU.go (ι:=List Addr×Led) D (itrRange B (lo:Nat) 1 (a-lo)) [("start_at",.any)] (fun j vs z=>vs=z.1.map .ref∧Tups z.2 z.1 ((List.range j).map fun k=>(((run ns (lo+k) a (wm ns a):Nat):Int),((lo+k:Nat):Int)))∧j≤a-lo)
   (fun z=>(ia,(itrList B T (as.map .ref)).at_ (i+1))::(L+1+0,.cell (.ref d))::(L+1+1,.cell (.int (a:Nat)))::(L+1+2,.cell lv)::(C.env.locals,.ns l)::(d,ilst ns)::(T,.lst (as.map .ref))::(z.2++own)) ([],[]) (fun j=>.int ((lo+j:Nat):Int)) (fun _ _ _=>[.i 4,.i 5]) (fun _=>[]) rfl rfl ⟨rfl,fun p hp=>by rw [List.mem_singleton.mp hp]⟩ (fun j _=>⟨by show VS.int _=_; congr 1; push_cast; lia,rfl⟩) (hlo ▸ IterP.range (by omega) (by lia)) range_self let_name ⟨rfl,.nil,Nat.zero_le _⟩ (fun _ _ _ _ _=>trivial) (fun j vs z hI=>?_) (fun j vs z hj hI ib D1 D' N1 N0 h1 h0=>?_) (fun D' vs z hI=>?_)
  ·have h1:=hI.2.1.length
   rw [List.length_map,List.length_range] at h1
   rw [hI.1,List.length_map,h1]
   exact far [_,_,_,_] [] (.a Z0 (.n 1000000)) [.a Z1 (.n 900),.b Z2 Z1,.a Z0 Z3,.a Z3 Z2] [1,1,1,1,1] (fm hz (fm hal (fm hI.2.2 (fm (Nat.sub_le _ _) fz)))) rfl
  ·have hj:j<a-lo:=hj
   conv=>whnf
   refine ⟨rfl,?_⟩
   conv=>whnf
   refine ⟨rfl,?_⟩
   conv=>whnf
   refine law_same_spec (ns:=ns) (p:=lo+j) (q:=a) [] (at_mem (j:=8) rfl) (by exact nD hz rfl) (by omega) (by exact Nat.le_of_lt ‹_›) ?_
   conv=>whnf
   intro oa
   conv=>whnf
   refine ⟨rfl,?_⟩
   refine h1 _ (z.1++[oa],(oa,OS.tup [.int ((run ns (lo+j) a (wm ns a):Nat):Int),.int ((lo+j:Nat):Int)])::z.2) _ _ rfl ⟨by rw [hI.1]; exact (List.map_append (f:=VS.ref) (l₁:=z.1) (l₂:=[oa])).symm,?_,hj⟩ (Sub.ix [1,1,1,1,1,1,1,1,1,1,0] 0 _)
   rw [List.range_succ,List.map_append]
   exact (hI.2.1.mono fun p hp=>.tail _ hp).snoc (.head _)
  ·obtain ⟨bs,G⟩:=z
   obtain ⟨rfl,hb,-⟩:=hI
   have hb:Tups G bs ((List.range (a-lo)).map fun k=>(((run ns (lo+k) a (wm ns a):Nat):Int),((lo+k:Nat):Int))):=hb
   have hop:∀ x∈((List.range (a-lo)).map fun k=>(((run ns (lo+k) a (wm ns a):Nat):Int),((lo+k:Nat):Int))),∃ q:Nat,(a:Int)-w≤q∧q<a∧x=(((run ns q a (wm ns a):Nat):Int),(q:Int)):=fun x hx=>by
    obtain ⟨k,hk,rfl⟩:=List.mem_map.mp hx
    have:=List.mem_range.mp hk
    exact ⟨lo+k,by omega,by omega,rfl⟩
   have hop2:∀ q:Nat,(a:Int)-w≤q→q<a→(((run ns q a (wm ns a):Nat):Int),(q:Int))∈((List.range (a-lo)).map fun k=>(((run ns (lo+k) a (wm ns a):Nat):Int),((lo+k:Nat):Int))):=fun q h1 h2=>
    List.mem_map.mpr ⟨q-lo,List.mem_range.mpr (by omega),by rw [show lo+(q-lo)=q by omega]⟩
   have hopl:((List.range (a-lo)).map fun k=>(((run ns (lo+k) a (wm ns a):Nat):Int),((lo+k:Nat):Int))).length≤900:=by rw [List.length_map,List.length_range]; exact far [_,_,_] [] (.a Z0 (.n 900)) [.a Z1 (.n 900),.b Z2 Z1,.a Z0 Z2] [1,1,1,1] (fm hz (fm hal (fm (Nat.sub_le _ _) fz))) rfl
   generalize ((List.range (a-lo)).map fun k=>(((run ns (lo+k) a (wm ns a):Nat):Int),((lo+k:Nat):Int)))=op at *
   have hbl:=hb.length
   clear hlo
   conv=>whnf
   intro z0
   conv=>whnf
   refine EvP.comp D [] [] rfl rfl (fun _=>rfl) ?_
   conv=>whnf
   refine CmP.go (ι:=Unit) D (itrList B D' (bs.map .ref)) [("count",.any),("start_at",.any)] (fun j vs _=>vs=(op.take j).map (fun x=>VS.int x.1)) (fun _=>(z0,.lst [.int 0])::(D',.lst (bs.map .ref))::(ia,(itrList B T (as.map .ref)).at_ (i+1))::(L+1+0,.cell (.ref d))::(L+1+1,.cell (.int (a:Nat)))::(L+1+2,.cell lv)::(C.env.locals,.ns l)::(d,ilst ns)::(T,.lst (as.map .ref))::(G++own)) ()
    (fun j=>.ref (bs.getD j 0)) (fun j _ _=>[.t [.int (op.getD j (0,0)).1,.int (op.getD j (0,0)).2]]) (fun _=>[.l [0],.l (op.map (·.1))]) rfl ⟨rfl,fun p hp=>by rcases List.mem_cons.mp hp with rfl | hp; rfl; rw [List.mem_singleton.mp hp]⟩ (fun j h=>refs_item h) (IterP.list (.tail _ (.head _))) list_self let_tup rfl (fun _ _ _ q _=>List.mem_append_right q (.tail _ (.tail _ (.head _)))) (fun j vs z hI=>?_) (fun j vs z hj hI ib D1 D2 N1 N0 h1 h0=>?_) (fun D2 vs z hI=>?_)
   ·rw [hI,List.length_map,List.length_take]
    exact far [_,_] [] (.a Z0 (.n 1000000)) [.a Z1 (.n 900),.a Z0 Z1] [1,1,1] (fm hopl (fm (Nat.min_le_right _ _) fz)) rfl
   ·have hj:j<bs.length:=(List.length_map (f:=VS.ref) (as:=bs)) ▸ hj
    have hg2:(bs.getD j 0,OS.tup [.int (op.getD j (0,0)).1,.int (op.getD j (0,0)).2])∈G++own:=List.mem_append_left _ (hb.get (by exact far [_,_,_] [] (.b Z0 Z1) [.b Z0 Z2,.c Z2 Z1] [1,1,1] (fm hj (fm hbl fz)) rfl))
    have hst:op.take (j+1)=op.take j++[op.getD j (0,0)]:=by
     rw [List.take_succ,List.getElem?_eq_getElem (by exact far [_,_,_] [] (.b Z0 Z1) [.b Z0 Z2,.c Z2 Z1] [1,1,1] (fm hj (fm hbl fz)) rfl),List.getD_eq_getElem?_getD,List.getElem?_eq_getElem (by exact far [_,_,_] [] (.b Z0 Z1) [.b Z0 Z2,.c Z2 Z1] [1,1,1] (fm hj (fm hbl fz)) rfl)]; rfl
    generalize op.getD j (0,0)=x at *
    generalize bs.getD j 0=xa at *
    conv=>whnf
    refine ⟨List.mem_append_right [_,_,_,_,_,_,_,_,_,_,_,_] hg2,?_⟩
    conv=>whnf
    refine ⟨rfl,?_⟩
    exact h1 _ () _ _ rfl (by rw [hI,hst,List.map_append]; rfl) (Sub.refl _)
   ·have e:OS.lst vs=ilst (op.map (·.1)):=by
     rw [hI]
     show OS.lst ((op.take (bs.map VS.ref).length).map fun x=>VS.int x.1)=_
     rw [List.length_map,hbl,List.take_length]
     unfold ilst
     rw [List.map_map]; rfl
    rw [e]
    clear e hI
    have hml:(op.map (·.1)).length=op.length:=List.length_map ..
    conv=>whnf
    refine ⟨⟨(at_mem (j:=1) rfl),(at_mem (j:=0) rfl),by rw [hml,List.length_singleton]; exact far [_] [] (.a (.p (.n 1) Z0) (.n 1000000)) [.a Z0 (.n 900)] [1,1] (fm hopl fz) rfl⟩,fun R=>?_⟩
    conv=>whnf
    refine CallP.maxL [.i 7,.b [.i 7,.i 5,.i 6,.l ns,.b [] [.i 6,.i 6]] [.i 7,.i 7,.i 6]] (.head _) (by rw [List.length_append,List.length_singleton]; lia) fun M hM1 hM2=>?_
    have hM0:0≤M:=hM2 0 (.head _)
    have hMb:∀ q:Nat,(a:Int)-w≤q→q<a→((run ns q a (wm ns a):Nat):Int)≤M:=fun q h1 h2=>hM2 _ (List.mem_append_right _ (List.mem_map.mpr ⟨_,hop2 q h1 h2,rfl⟩))
    have hMm:M=0∨∃ q:Nat,(a:Int)-w≤q∧q<a∧M=(run ns q a (wm ns a):Nat):=by
     rcases List.mem_append.mp hM1 with h | h
     ·exact .inl (List.mem_singleton.mp h)
     ·obtain ⟨x,hx,rfl⟩:=List.mem_map.mp h
      obtain ⟨q,h1,h2,rfl⟩:=hop x hx
      exact .inr ⟨q,h1,h2,rfl⟩
    conv=>whnf
    refine ⟨hc2,?_⟩
    conv=>whnf
    rcases hf with ⟨hp2,hlit,hp1,hf⟩ | ⟨q,hq1,hq2,hq3,hq4,hp1,hp2,hf⟩
    ·have hM3:¬ M≥3:=by
      rcases hMm with h | ⟨q,h1,h2,h3⟩
      ·lia
      ·have:=hlit q h1 h2; lia
     refine ⟨fun _=>?_,fun h=>absurd hp2 h⟩
     conv=>whnf
     refine ⟨hc2,?_⟩
     conv=>whnf
     refine ⟨fun h=>absurd h hM3,fun _=>?_⟩
     conv=>whnf
     refine ⟨hc0,?_⟩
     conv=>whnf
     refine ⟨hc1,?_⟩
     conv=>whnf
     refine ⟨⟨(at_mem (j:=9) rfl),idx1 hal (by exact nD hz rfl)⟩,?_⟩
     conv=>whnf
     refine ⟨fun _=>?_,fun h=>absurd hp1.symm h⟩
     conv=>whnf
     refine StP.augC [.i 6] (at_mem (j:=6) rfl) hc1 rfl ?_
     conv=>whnf
     refine ⟨hc1,?_⟩
     conv=>whnf
     exact hN2 (a+1,.int p.1,.int p.2,.ref D',.int M) _ hf (Sub.trans (Sub.pick .head (.pick .head (.pick .head (.pick .head (.pick .head (.pick .head (.pick .head (Sub.right _ _)))))))) (Sub.ix [] 4 _))
    ·have hML:M=(run ns q a (wm ns a):Nat):=by
      have h1:=hMb q hq1 hq2
      rcases hMm with h | ⟨q',h1',h2,h3⟩
      ·lia
      ·have:=(hq4 q' h1' h2).1; exact Int.le_antisymm (far [_,_] [_] (.d Y0 X0) [.f Y0 X1,.a Z1 Z0] [1,1,1] (fm h3 (fm this fz)) rfl) (far [_] [_] (.d X0 Y0) [.d X0 Y0] [1,1] (fm h1 fz) rfl)
     refine ⟨fun h=>by omega,fun _=>?_⟩
     conv=>whnf
     refine ⟨hc2,?_⟩
     conv=>whnf
     refine ⟨fun h=>by omega,fun _=>?_⟩
     conv=>whnf
     refine ⟨hc2,?_⟩
     conv=>whnf
     refine ⟨fun _=>?_,fun h=>absurd (hp1.trans hML.symm) h⟩
     conv=>whnf
     refine ⟨hc1,?_⟩
     conv=>whnf
     refine EvP.comp D [("longest",L+1+2)] [] rfl (by rw [hD]; rfl) (fun _=>rfl) ?_
     conv=>whnf
     refine CmP.go (ι:=Unit) D (itrList B D' (bs.map .ref)) [("count",.any),("start_at",.any)] (fun j vs _=>vs=((op.take j).filter fun x=>decide (x.1=M)).map (fun x=>VS.int x.2)) (fun _=>(R,ilst ([0]++op.map (·.1)))::(D2,ilst (op.map (·.1)))::(z0,.lst [.int 0])::(D',.lst (bs.map .ref))::(ia,(itrList B T (as.map .ref)).at_ (i+1))::(L+1+0,.cell (.ref d))::(L+1+1,.cell (.int (a:Nat)))::(L+1+2,.cell (.int M))::(C.env.locals,.ns l)::(d,ilst ns)::(T,.lst (as.map .ref))::(G++own)) ()
      (fun j=>.ref (bs.getD j 0)) (fun j _ _=>[.t [.int (op.getD j (0,0)).1,.int (op.getD j (0,0)).2],.i 10]) (fun _=>[.x]) rfl ⟨rfl,fun p hp=>by rcases List.mem_cons.mp hp with rfl | hp; rfl; rw [List.mem_singleton.mp hp]⟩ (fun j h=>refs_item h) (IterP.list (List.mem_append_right [_,_,_] (.head _))) list_self let_tup rfl (fun _ _ _ q _=>List.mem_append_right q (List.mem_append_right [_,_,_,_] (.head _))) (fun j vs z hI=>?_) (fun j vs z hj hI ib D1 D3 N1 N0 h1 h0=>?_) (fun D3 vs z hI=>?_)
     ·rw [hI,List.length_map]
      have h1:=List.length_filter_le (fun x:Int×Int=>decide (x.1=M)) (op.take j)
      rw [List.length_take] at h1
      exact far [_,_,_] [] (.a Z0 (.n 1000000)) [.a Z0 Z1,.a Z2 (.n 900),.a Z1 Z2] [1,1,1,1] (fm h1 (fm hopl (fm (Nat.min_le_right _ _) fz))) rfl
     ·have hj:j<bs.length:=(List.length_map (f:=VS.ref) (as:=bs)) ▸ hj
      have hg2:(bs.getD j 0,OS.tup [.int (op.getD j (0,0)).1,.int (op.getD j (0,0)).2])∈G++own:=List.mem_append_left _ (hb.get (by exact far [_,_,_] [] (.b Z0 Z1) [.b Z0 Z2,.c Z2 Z1] [1,1,1] (fm hj (fm hbl fz)) rfl))
      have hst:op.take (j+1)=op.take j++[op.getD j (0,0)]:=by
       rw [List.take_succ,List.getElem?_eq_getElem (by exact far [_,_,_] [] (.b Z0 Z1) [.b Z0 Z2,.c Z2 Z1] [1,1,1] (fm hj (fm hbl fz)) rfl),List.getD_eq_getElem?_getD,List.getElem?_eq_getElem (by exact far [_,_,_] [] (.b Z0 Z1) [.b Z0 Z2,.c Z2 Z1] [1,1,1] (fm hj (fm hbl fz)) rfl)]; rfl
      generalize op.getD j (0,0)=x at *
      generalize bs.getD j 0=xa at *
      conv=>whnf
      refine ⟨List.mem_append_right [_,_,_,_,_,_,_,_,_,_,_,_,_,_] hg2,?_⟩
      conv=>whnf
      refine ⟨rfl,?_⟩
      conv=>whnf
      refine ⟨fun hxM=>?_,fun hxM=>?_⟩
      ·conv=>whnf
       refine ⟨rfl,?_⟩
       exact h1 _ () _ _ rfl (by rw [hI,hst,List.filter_append,List.filter_cons_of_pos (p:=fun x:Int×Int=>decide (x.1=M)) (decide_eq_true hxM),List.map_append]; rfl) (Sub.refl _)
      ·conv=>whnf
       exact h0 () _ _ rfl (by rw [hI,hst,List.filter_append,List.filter_cons_of_neg (by rw [decide_eq_true_eq]; exact hxM),List.filter_nil,List.append_nil]) (Sub.refl _)
     ·have e:OS.lst vs=ilst ((op.filter fun x=>decide (x.1=M)).map (·.2)):=by
       rw [hI]
       show OS.lst (((op.take (bs.map VS.ref).length).filter fun x=>decide (x.1=M)).map fun x=>VS.int x.2)=_
       rw [List.length_map,hbl,List.take_length]
       unfold ilst
       rw [List.map_map]; rfl
      rw [e]
      clear e hI
      have hqm:(q:Int)∈(op.filter fun x=>decide (x.1=M)).map (·.2):=List.mem_map.mpr ⟨_,List.mem_filter.mpr ⟨hop2 q hq1 hq2,decide_eq_true hML.symm⟩,rfl⟩
      conv=>whnf
      refine CallP.maxL [.x] (.head _) (List.length_pos_of_mem hqm) fun S hS1 hS2=>?_
      have hSq:S=(q:Int):=by
       have h1:=hS2 _ hqm
       obtain ⟨x,hx,rfl⟩:=List.mem_map.mp hS1
       obtain ⟨hx1,hx2⟩:=List.mem_filter.mp hx
       obtain ⟨q',h1',h2,rfl⟩:=hop x hx1
       have hx2:((run ns q' a (wm ns a):Nat):Int)=M:=of_decide_eq_true hx2
       have:=(hq4 q' h1' h2).2 (by exact Nat.le_antisymm (far [_,_] [_] (.a Z0 Z1) [.f Y0 X1,.f X0 Y0] [1,1,1] (fm hML (fm hx2 fz)) rfl) (far [_,_] [_] (.a Z0 Z1) [.f Y0 X0,.f X1 Y0] [1,-1,-1] (fm hML (fm hx2 fz)) rfl))
       dsimp only at h1 ⊢
       exact Int.le_antisymm (far [_,_] [] (.d X0 X1) [.a Z0 Z1] [1,1] (fm this fz) rfl) (far [_,_] [] (.d X0 X1) [.d X0 X1] [1,1] (fm h1 fz) rfl)
      conv=>whnf
      refine ⟨fun _=>?_,fun h=>absurd (by rw [hp2,hSq]; lia) h⟩
      conv=>whnf
      refine StP.augC [.i 7] (at_mem (j:=7) rfl) hc1 rfl ?_
      conv=>whnf
      refine ⟨hc1,?_⟩
      have ea:(a:Int)+p.1=((a+run ns q a (wm ns a):Nat):Int):=by exact Int.le_antisymm (far [_,_] [_] (.d (.q X0 Y0) (.t (.p Z0 Z1))) [.f Y0 X1] [1,1] (fm hp1 fz) rfl) (far [_,_] [_] (.d (.t (.p Z0 Z1)) (.q X0 Y0)) [.f Y0 X1] [1,-1] (fm hp1 fz) rfl)
      rw [ea]
      conv=>whnf
      exact hN2 (a+run ns q a (wm ns a),.int p.1,.int p.2,.ref D',.int M) _ hf (Sub.trans (Sub.pick .head (.pick .head (.pick .head (.pick .head (.pick .head (.pick .head (.pick .head (Sub.right _ _)))))))) (Sub.ix [] 5 _))
 ·have hn:(itrList B T (as.map .ref)).n=ts.length:=by show ((as.map VS.ref).length)=_; rw [List.length_map,hasl]
  rw [hn,List.drop_length] at hI
  have hf:c.1=ns.length:=hI
  have hde:decide (((c.1:Nat):Int)=(ns.length:Nat))=true:=by rw [hf]; exact decide_eq_true rfl
  rw [← hde] at hK
  conv=>whnf
  refine ⟨hc1,?_⟩
  conv=>whnf
  refine ⟨hc0,?_⟩
  conv=>whnf
  refine ⟨⟨(at_mem (j:=4) rfl),by exact nD hz rfl⟩,?_⟩
  conv=>whnf
  exact hN _ _ hs _ hK (Sub.ix [3] 3 _)
end
end
section
section
variable {B:Bs} {nm:NM} {n:Nat} {C:Cx B nm n} {l:Fr} {led:Led}
theorem fe_own (hB:BOk B):∃ nm q N bs hdct sn sub ab col dd k0 k1 k2 k3 k5 newId,B.base.get? B.exC=some (excClassObj nm q B.exC N bs [.ref 31,.type "Exception",.type "BaseException",.type "object"] hdct sn sub ab col dd k0 k1 k2 k3 k5 newId):=by
 obtain ⟨nm,q,bs,hdct,sn,sub,ab,col,dd,k0,k1,k2,k3,k5,h⟩:=fe_obj hB
 rw [hB.exc]
 exact ⟨nm,q,50,bs,hdct,sn,sub,ab,col,dd,k0,k1,k2,k3,k5,_,h⟩
theorem StP.try_ {body:List Stmt} {b0:Stmt} {suite:List Stmt} {p2 hpos pos:Pos} {K:KS} (X:Led) (Rz:Prop) (hs:Hs) (ho:∃ o,C.fr=C.env::o) (hf:FrOk C.fr ((C.env.locals,.ns l)::X)) (hn:nm.lookup (Str.ofString "FormatError")=some .globalImplicit)
  (h:∀ D:Cx B nm n,D.env=C.env→(Rz→D.rz l)→D.X=X→mrun D 1000 (.W l led hs body K))
  (h2:Rz→∀ (A':Around) (Q:Flow→Shared→Prop) s',A'.units=C.A.units→C.St l X s'→SK C K Q→wpAny (model B.prog B.w) A' (execs (b0::suite) C.env) Q (fun _ _=>False) s'):
  StP C l led (.Try body [.ExceptHandler (some (.Name "FormatError" p2)) none (b0::suite) hpos] [] [] pos) K:=⟨fun Q s H k=>by
 obtain ⟨o,e⟩:=ho
 have e2:C.A.frames=some (C.env::o):=e ▸ C.R.frames
 refine Mine.try_ (outer:=o) (n:=n) (e ▸ C.R) (fe_own C.hB) (by decide) (fun A' s led Q E H q=>?_) ?_
 ·rw [C.hB.exc] at q
  exact ldK H C.hB.X C.hB.T (show nsIn _ _ "FormatError" = some (some (.ref 51)) by k_is) q C.hk (C.kind hn) C.hg (by decide)
 have q:=h ⟨C.A,fun v s=>Rz∧∃ led,Sub X led∧ExIn B C.fr ((C.env.locals,.ns l)::led) v s,C.env,C.fr,fun l'=>Rz∧l'=l,X,C.hB,C.R,C.hnm,C.hk,C.hg,C.hb,fun v s ⟨hz,led,h1,x⟩=>by
   rw [e] at x
   exact exc_noted x e2 fun v s' x'=>⟨hz,led,h1,e ▸ x'⟩,fun _ _=>⟨o,e⟩,fun l' q=>by
   obtain ⟨hz,q⟩:=q
   subst q
   exact ⟨fun led h1=>hf.mono fun p hp=>(List.mem_cons.mp hp).elim (fun e=>e ▸ .head _) fun hp=>.tail _ (h1.mem p hp),fun led v s h1 x=>⟨hz,led,h1,x⟩⟩⟩ rfl (fun hz=>⟨hz,rfl⟩) rfl
 refine wpAny_mono (mrun_ok _ _ _ q (fun f s'=>match f with | .next=>wpAny (model B.prog B.w) C.A (execs [] C.env) Q C.E s' | f=>Q f s') s H fun f l' led' hs' s' fl q hf H'=>?_) (fun _ _ q=>q) fun v s' ⟨hz,led',h1,x⟩=>⟨_,e ▸ x,fun A' s'' hu H'=>h2 hz A' Q s'' hu (St.sub H' (.pick .head h1)) k⟩
 cases f with
 | next=>cases hf; exact wpAny_execs_nil (k _ _ _ _ _ _ q rfl H')
 | brk=>cases hf; exact k _ _ _ _ _ _ q rfl H'
 | cont=>cases hf; exact k _ _ _ _ _ _ q rfl H'
 | ret v=>
  have hf0:=hf
  obtain ⟨u,e,hu⟩:=hf
  subst e
  exact k _ _ _ _ _ _ q hf0 H'⟩
end
section
variable {B:Bs} {nm:NM} {n:Nat} {C:Cx B nm n} {l:Fr} {led:Led}
noncomputable def kIa (C:Cx B nm n) (l:Fr) (x:Str) (d:Addr) (K:KS):KE:=fun v led hs=>match v with
 | .ref b=>∃ ns ms j,led[j]?=some (d,ilst ns)∧(b,ilst ms)∈led∧ns.length+ms.length≤1000000∧setL (ilst (ns++ms)) led j fun led2=>kAN C l x K (.ref d) led2 hs
 | _=>False
theorem StP.iadd {x:Str} {e:Expr} {p pos:Pos} {K:KS} {d:Addr} (hs:Hs) (hx:lkp x l=some (.ref d)) (hn:isLoc nm x=true) (h:mrun C 1000 (.E l led hs e (kIa C l x d K))):StP C l led (.AugAssign (.Name x p) .Add e pos) K:=⟨fun Q s H k=>by
 obtain ⟨e1,-⟩:=isLoc_of hn
 refine wpAny_AugAssign_Name (ldN H (.head _) rfl (lkp_mem hx) (mrun_ok C _ _ h _ s H fun v led1 hs1 s1 u q hu H1=>?_) C.hk (C.kind e1))
 cases v with
 | ref b=>
  cases hu
  obtain ⟨ns,ms,j,hj,hb,hz,q⟩:=q
  obtain ⟨led',U,q⟩:=setL_ok hj q
  exact l_iadd_ints H1 (.tail U) (.tail _ hb) hz fun s' H'=>kAN_ok q rfl H' k
 | _=>exact q.elim⟩
end
section
variable {B:Bs} {nm:NM} {n:Nat} {l:Fr} {own P:Led} {K:KE} {p c:Addr}
theorem drawO {C:Cx B nm (n+2)} (q:Led) {m:Nat} {mi:Int} (hs:Hs) (hP:Pool p c P) (hm:mi=m) (h1:1≤m) (h2:m≤1000)
  (hK:∀ (r:Nat) P',r<m→Pool p c P'→K (.int (r:Nat)) (q++(P'++own)) hs):CallP C l (q++(P++own)) (.ref 415) [.ref p,.int mi] K:=by
 subst hm
 exact ⟨fun Q s us hu H k=>(draw_spec (C:=C) (l:=l) (own:=q++own) (K:=fun v led _=>∃ (r:Nat) (P':Led),v=.int (r:Nat)∧led=P'++(q++own)∧r<m∧Pool p c P') [] hP h1 h2 (fun r P' a b=>⟨r,P',rfl,rfl,a,b⟩)).ok Q s us hu (St.perm H (.cons _ (List.perm_append_comm_assoc q P own))) fun v led' hs' s' u ⟨r,P',e1,e2,a,b⟩ hv H'=>k _ _ _ s' u (hK r P' a b) (e1 ▸ hv) (St.perm (e2 ▸ H') (.cons _ (List.perm_append_comm_assoc P' q own)))⟩
end
section
variable {B:Bs} {nm:NM} {n:Nat} {C:Cx B nm n} {l:Fr} {led:Led} {K:KS}
theorem StP.ifJ {ι:Type} {t:Expr} {bd oe:List Stmt} {p:Pos} (P:Bool→ι→Prop) (ld:ι→Led) (hs:Hs) (hs2:Bool→ι→Hs)
  (h:∀ N:Bool→Led→Prop,(∀ b c led2,P b c→Sub (ld c) led2→N b led2)→mrun C 1000 (.T l led hs t fun b led' _=>N b led'))
  (ht:∀ c,P true c→mrun C 1000 (.W l (ld c) (hs2 true c) bd K)) (hf:∀ c,P false c→mrun C 1000 (.W l (ld c) (hs2 false c) oe K)):StP C l led (.If t bd oe p) K:=⟨fun Q s H k=>by
 refine wpAny_If (mrun_ok C _ _ (h (fun b led'=>∃ c,P b c∧Sub (ld c) led') fun b c led2 h1 h3=>⟨c,h1,h3⟩) _ s H fun b led1 hs1 s1 q H1=>?_)
 obtain ⟨c,h1,h3⟩:=q
 cases b with
 | true=>exact mrun_ok C _ _ (ht c h1) _ s1 (H1.sub h3) k
 | false=>exact mrun_ok C _ _ (hf c h1) _ s1 (H1.sub h3) k⟩
end
section
variable {B:Bs} {nm:NM} {n:Nat} {C:Cx B nm n} {l:Fr} {led:Led}
theorem CallP.len {d:Addr} {ns:List Int} {K:KE} (hs:Hs) (hm:(d,ilst ns)∈led) (hz:ns.length<2 ^ 40) (h:K (.int ns.length) led hs):CallP C l led (.builtin "len") [.ref d] K:=⟨fun Q s us hu H k=>by
 obtain rfl:=oksR hu
 exact l_len_ints H (.tail _ hm) hz fun t s' H'=>k _ _ _ _ _ h ⟨t,rfl⟩ H'⟩
end
end
section
noncomputable def Alph (ns:List Int):Prop:=∀ x∈ns,x=7∨x=255∨x=0∨x=8
structure PureLaw:Prop where
 fits:∀ ns w,Alph ns→ns.length≤56→1≤w→w≤20→Fits ns w 0 (toks ns w)
 tok:∀ ns w,Alph ns→ns.length≤56→1≤w→w≤20→(∀ p∈toks ns w,TokOk2 p)∧(toks ns w).length≤56
 sym:∀ ns w,Alph ns→ns.length≤56→1≤w→w≤20→(used (cntMs ns w)).length≤60∧(used (cntDs ns w)).length≤60
 back:∀ ns w lm ld,Alph ns→ns.length≤56→1≤w→w≤20→Huff (cntMs ns w) lm→Huff (cntDs ns w) ld→Bytes (sqz ns w lm ld)∧(∀ x∈sqz ns w lm ld,0≤x∧x<256)∧1≤(sqz ns w lm ld).length∧(sqz ns w lm ld).length≤128 ∧
  (∀ m:Int,ns.length≤m→unsq (sqz ns w lm ld) m=some ns)∧(ns≠[]→unsq (sqz ns w lm ld) (ns.length-1)=none)
 odd:∀ bs out,unsq bs 300=some out→out.length≤300∧∀ x∈out,0≤x∧x<256
section
variable {B:Bs} {nm:NM} {n:Nat} {l:Fr} {own:Led} {K:KE} {sc:Addr} {xs:List Int}
theorem poolO {C:Cx B nm (n+2)} (q:Led) (hs:Hs) {zs:Array Value} (hsc:B.base.IsList sc zs) (hzs:oks (xs.map .int) zs.toList) (hz:xs.length≤1000)
  (hK:∀ p c P,Pool p c P→K (.ref p) (q++(P++own)) hs):CallP C l (q++own) (.ref 420) [.ref sc] K:=
 ⟨fun Q s us hu H k=>(pool_spec (C:=C) (l:=l) (own:=q++own) (K:=fun v led _=>∃ p c P,v=.ref p∧led=P++(q++own)∧Pool p c P) [] hsc hzs hz (fun p c P a=>⟨p,c,P,rfl,rfl,a⟩)).ok Q s us hu H fun v led' hs' s' u ⟨p,c,P,e1,e2,a⟩ hv H'=>k _ _ _ s' u (hK p c P a) (e1 ▸ hv) (St.perm (e2 ▸ H') (.cons _ (List.perm_append_comm_assoc P q own)))⟩
end
section
variable {B:Bs} {A:Around} {envs:List Env} {n:Nat} {own:Led} {s:Shared} {Q E:Value→Shared→Prop} {sc:Addr} {xs:List Int}
theorem law_spec (hB:BOk B) (PL:PureLaw) (R:Rm A envs (n+24)) (hF:FrOk envs own) (H:St B own s) {zs:Array Value} (hsc:B.base.IsList sc zs) (hzs:oks (xs.map .int) zs.toList) (hz:xs.length≤1000)
  (hQ:∀ s',St B own s'→Q (.bool true) s'):codeAny (model B.prog B.w) A (.call (.ref 437) ⟨[.ref sc],[]⟩) (RQ Q E) s:=by
 refine' fnT hB R (fun _=>[]) ["script"] [("script",.ref sc),("data",.any),("_",.any),("start_at",.any),("reach_back",.any),("small",.any),("spoiled",.any),("odd",.any)] [("pool",0,.any)] (fun L r=>(L+1+0,.cell .any)::r) (fun _ _=>rfl) (fun v led'=>v=.bool true∧Sub own led') ?fa ?fb ?fc rfl ?fk ?fl (fun L=>?fm) (by show ([0]:List Nat).Nodup; decide) ?fe H (fun L D hD hDf N hN=>?_) (fun v led' u s' hv hu H'=>?fz)
 (case fa=>k_is); (case fb=>k_is); (case fc=>exact rfl); (case fe=>rfl)
 case fz=>
  obtain ⟨rfl,hv⟩:=hv
  cases hu
  exact hQ _ (H'.sub hv)
 case fk=>exact fun L y hy=>by rw [List.mem_singleton.mp hy]; exact .inl rfl
 case fl=>
  refine nsOk.mk (fun p hp=>?_) (nodupB_ok rfl) (fun y hy=>?_)
  ·rcases List.mem_cons.mp hp with rfl | hp
   ·exact rfl
   ·simp only [List.mem_cons,List.not_mem_nil,or_false] at hp
    rcases hp with rfl | rfl | rfl | rfl | rfl | rfl | rfl <;> trivial
  ·show (if y = "script" then some (Value.ref sc) else none)=none
   rw [if_neg]
   intro q
   subst q
   exact hy (.head _)
 case fm=>exact fun c hc=>by rw [List.mem_singleton.mp hc]; exact ⟨rfl,trivial⟩
 have hcp:D.env.cells.lookup (Str.ofString "pool")=some (L+1+0):=by rw [hD]; rfl
 conv=>whnf
 refine poolO [_] [.i 0] hsc hzs hz fun p c P hP=>?_
 conv=>whnf
 refine ⟨hcp,?_⟩
 conv=>whnf
 intro dA
 conv=>whnf
 refine StP.for_ [.i 1] (fun _=>rfl) ?_
 conv=>whnf
 refine ⟨hcp,?_⟩
 conv=>whnf
 refine drawO (m:=9) [_,_] [] hP rfl (by decide) (by decide) fun r P1 hr hP1=>?_
 conv=>whnf
 refine CallP.range1 [] fun rg=>?_
 refine FoP.rng (ι:=List Int×Led×VS×VS) (x:=0) (y:=(r:Nat)) r (fun i=>(i:Nat)) (fun i z=>Alph z.1∧z.1.length≤7*i∧Pool p c z.2.1)
  (fun z=>[("script",.ref sc),("data",.ref dA),("_",z.2.2.1),("start_at",z.2.2.2),("reach_back",.any),("small",.any),("spoiled",.any),("odd",.any)]) (fun z=>(dA,ilst z.1)::(L+1+0,.cell (.ref p))::(z.2.1++own)) ([],P1,.any,.any) (fun _ _=>[.j]) (fun _=>[.i 1]) (by lia) (by rfl) (fun i=>Int.zero_add _) ⟨(fun _ h=>nomatch h),Nat.le_refl _,hP1⟩ (fun i z hi hI ia N2 hN2=>?_) (fun z hI=>?_)
 ·obtain ⟨ns,P,iv,sv⟩:=z
  obtain ⟨hal,hln,hP⟩:=hI
  dsimp only at hal hln hP
  have hn49:ns.length≤49:=by exact far [_,_,_] [] (.a Z0 (.n 49)) [.b Z1 (.n 9),.b Z2 Z1,.a Z0 (.m 7 Z2)] [1,7,7,1] (fm hr (fm hi (fm hln fz))) rfl
  conv=>whnf
  refine StP.ifJ (ι:=Led) (fun b P'=>Pool p c P'∧(b=true→ns≠[])) (fun P'=>(ia,(itrRange B 0 1 r).at_ (i+1))::(dA,ilst ns)::(L+1+0,.cell (.ref p))::(P'++own)) [.l ns,.l [],.i 3] (fun b _=>[.i 2,.l ns]) (fun N3 hN3=>?_) (fun P' hP'=>?_) (fun P' hP'=>?_)
  ·conv=>whnf
   intro e0
   conv=>whnf
   refine ⟨⟨by lia,(at_mem (j:=2) rfl),(at_mem (j:=0) rfl)⟩,?_⟩
   refine ⟨fun hnil=>?_,fun hnil=>?_⟩
   ·conv=>whnf
    exact hN3 false P _ ⟨hP,nofun⟩ (.skip (.refl _))
   ·conv=>whnf
    refine ⟨hcp,?_⟩
    conv=>whnf
    refine drawO (m:=2) [_,_,_,_] [] hP rfl (by decide) (by decide) fun r2 P2 hr2 hP2=>?_
    conv=>whnf
    refine ⟨fun _=>?_,fun _=>?_⟩
    ·conv=>whnf
     exact hN3 true P2 _ ⟨hP2,fun _=>hnil⟩ (.skip (.refl _))
    ·conv=>whnf
     exact hN3 false P2 _ ⟨hP2,nofun⟩ (.skip (.refl _))
  ·have hne:=List.length_pos_iff.mpr (hP'.2 rfl)
   conv=>whnf
   refine ⟨hcp,?_⟩
   conv=>whnf
   refine ⟨⟨(at_mem (j:=1) rfl),by exact nD hn49 rfl⟩,?_⟩
   conv=>whnf
   refine drawO (m:=ns.length) [_,_,_] [] hP'.1 rfl hne (by exact nA hn49 rfl) fun r3 P3 hr3 hP3=>?_
   conv=>whnf
   refine StP.for_ [.i 2] (fun _=>rfl) ?_
   conv=>whnf
   refine ⟨hcp,?_⟩
   conv=>whnf
   refine drawO (m:=7) [_,_,_] [] hP3 rfl (by decide) (by decide) fun r4 P4 hr4 hP4=>?_
   conv=>whnf
   refine CallP.range1 [] fun rg2=>?_
   refine FoP.rng (ι:=List Int×VS×Nat) (x:=0) (y:=1+(r4:Nat)) (1+r4) (fun i=>(i:Nat)) (fun j z=>Alph z.1∧z.1.length=ns.length+j∧z.2.2=r3+j)
    (fun z=>[("script",.ref sc),("data",.ref dA),("_",z.2.1),("start_at",.int (z.2.2:Nat)),("reach_back",.any),("small",.any),("spoiled",.any),("odd",.any)]) (fun z=>(ia,(itrRange B 0 1 r).at_ (i+1))::(dA,ilst z.1)::(L+1+0,.cell (.ref p))::(P4++own)) (ns,.int (i:Nat),r3) (fun _ z=>[.u 2 z.1,.l z.1]) (fun _=>[]) (by lia) (by rfl) (fun i=>Int.zero_add _) ⟨hal,rfl,rfl⟩ (fun j z hj h ib N4 hN4=>?_) (fun z h=>?_)
   ·have h1:=h.1
    have h2:=h.2.1
    have h3:=h.2.2
    have hb:z.2.2<z.1.length:=by exact far [_,_,_,_,_] [] (.b Z0 Z1) [.c Z1 (.p Z2 Z3),.c Z0 (.p Z4 Z3),.b Z4 Z2] [1,-1,1,1] (fm h2 (fm h3 (fm hr3 fz))) rfl
    conv=>whnf
    refine ⟨(at_mem (j:=2) rfl),?_⟩
    conv=>whnf
    refine ⟨⟨(at_mem (j:=2) rfl),idx1 hb (by exact far [_,_,_,_] [] (.b Z0 (.n 1000000)) [.b Z1 (.p (.n 1) Z2),.c Z0 (.p Z3 Z1),.b Z2 (.n 7),.a Z3 (.n 49)] [1,1,1,1,1] (fm hj (fm h2 (fm hr4 (fm hn49 fz)))) rfl)⟩,?_⟩
    conv=>whnf
    refine ⟨by exact far [_,_,_,_] [] (.a Z0 (.n 1000000)) [.b Z1 (.p (.n 1) Z2),.c Z0 (.p Z3 Z1),.b Z2 (.n 7),.a Z3 (.n 49)] [1,1,1,1,1] (fm hj (fm h2 (fm hr4 (fm hn49 fz)))) rfl,?_⟩
    conv=>whnf
    refine ⟨rfl,?_⟩
    conv=>whnf
    exact hN4 (z.1++[z.1.getD z.2.2 0],.int (j:Nat),z.2.2+1) _ ⟨fun x hx=>(List.mem_append.mp hx).elim (h1 x) fun hx=>List.mem_singleton.mp hx ▸ h1 _ (by rw [List.getD_eq_getElem?_getD,List.getElem?_eq_getElem hb]; exact List.getElem_mem hb),by rw [List.length_append,h2]; rfl,congrArg (·+1) h3⟩ (Sub.refl _)
   ·have h1:=h.1
    have h2:=h.2.1
    have h3:=h.2.2
    conv=>whnf
    exact hN2 (z.1,P4,z.2.1,.int (z.2.2:Nat)) _ ⟨h1,by show z.1.length≤7*(i+1); exact far [_,_,_,_] [] (.a Z0 (.m 7 (.p Z1 (.n 1)))) [.c Z0 (.p Z2 (.p (.n 1) Z3)),.a Z2 (.m 7 Z1),.b Z3 (.n 7)] [1,1,1,1] (fm h2 (fm hln (fm hr4 fz))) rfl,hP4⟩ (Sub.refl _)
  ·conv=>whnf
   refine StP.iadd [] rfl rfl ?_
   conv=>whnf
   refine EvP.comp D [("pool",L+1+0)] [.i 2] rfl (by rw [hD]; rfl) (fun _=>rfl) ?_
   conv=>whnf
   refine ⟨hcp,?_⟩
   conv=>whnf
   refine drawO (m:=3) [_,_,_] [] hP'.1 rfl (by decide) (by decide) fun r3 P3 hr3 hP3=>?_
   conv=>whnf
   refine CallP.range1 [] fun rg2=>?_
   refine CmP.go (ι:=List Int×Led) D (itrRange B 0 1 (1+r3)) [("_",.any)] (fun j vs z=>vs=z.1.map .int∧Alph z.1∧z.1.length=j∧j≤1+r3∧Pool p c z.2) (fun z=>(ia,(itrRange B 0 1 r).at_ (i+1))::(dA,ilst ns)::(L+1+0,.cell (.ref p))::(z.2++own)) ([],P3) (fun j=>.int (j:Nat)) (fun _ _ _=>[.i 6,.l [7,255,0,8]]) (fun _=>[]) rfl ⟨rfl,fun p hp=>by rw [List.mem_singleton.mp hp]⟩ (fun i _=>⟨by show VS.int (0+i*1)=_; rw [Int.zero_add,Int.mul_one],rfl⟩) (IterP.range (by lia) (by rfl)) range_self let_name ⟨rfl,(fun _ h=>nomatch h),rfl,Nat.zero_le _,hP3⟩ (fun _ _ _ _ _=>trivial) (fun j vs z h=>?_) (fun j vs z hj h ib D1 D2 N1 N0 h1 h0=>?_) (fun D2 vs z h=>?_)
   ·rw [h.1,List.length_map]
    have:=h.2.2
    exact far [_,_,_] [] (.a Z0 (.n 1000000)) [.b Z1 (.n 3),.c Z0 Z2,.a Z2 (.p (.n 1) Z1)] [1,1,1,1] (fm hr3 (fm this.1 (fm this.2.1 fz))) rfl
   ·conv=>whnf
    intro l4
    conv=>whnf
    refine ⟨rfl,?_⟩
    conv=>whnf
    refine drawO (m:=4) [_,_,_,_,_,_,_] [.l [7,255,0,8]] h.2.2.2.2 rfl (by decide) (by decide) fun r5 P5 hr5 hP5=>?_
    conv=>whnf
    refine ⟨⟨(at_mem (j:=0) rfl),Int.natCast_nonneg _,Int.ofNat_lt.mpr hr5,by decide⟩,?_⟩
    conv=>whnf
    refine ⟨rfl,?_⟩
    have hx:([7,255,0,8]:List Int).getD r5 0=7∨([7,255,0,8]:List Int).getD r5 0=255∨([7,255,0,8]:List Int).getD r5 0=0∨([7,255,0,8]:List Int).getD r5 0=8:=by
     match r5,hr5 with
     | 0,_=>exact .inl rfl
     | 1,_=>exact .inr (.inl rfl)
     | 2,_=>exact .inr (.inr (.inl rfl))
     | 3,_=>exact .inr (.inr (.inr rfl))
    exact h1 _ (z.1++[([7,255,0,8]:List Int).getD r5 0],P5) _ _ rfl ⟨by rw [h.1,List.map_append]; rfl,fun y hy=>(List.mem_append.mp hy).elim (h.2.1 y) fun hy=>List.mem_singleton.mp hy ▸ hx,by rw [List.length_append,h.2.2.1]; rfl,hj,hP5⟩ (.skip (.refl _))
   ·have e:OS.lst vs=ilst z.1:=by rw [h.1]; rfl
    have hl:z.1.length=1+r3:=h.2.2.1
    rw [e]
    conv=>whnf
    refine ⟨ns,z.1,2,rfl,.head _,by exact far [_,_,_] [] (.a (.p Z0 Z1) (.n 1000000)) [.c Z1 (.p (.n 1) Z2),.b Z2 (.n 3),.a Z0 (.n 49)] [1,1,1,1] (fm hl (fm hr3 (fm hn49 fz))) rfl,?_⟩
    conv=>whnf
    exact hN2 (ns++z.1,z.2,.int (i:Nat),sv) _ ⟨fun y hy=>(List.mem_append.mp hy).elim (hal y) (h.2.1 y),by show (ns++z.1).length≤7*(i+1); rw [List.length_append]; exact far [_,_,_,_] [] (.a (.p Z0 Z1) (.m 7 (.p Z2 (.n 1)))) [.c Z1 (.p (.n 1) Z3),.a Z0 (.m 7 Z2),.b Z3 (.n 3)] [1,1,1,1] (fm hl (fm hln (fm hr3 fz))) rfl,h.2.2.2.2⟩ (.skip (.refl _))
 ·obtain ⟨ns,P,iv,sv⟩:=z
  obtain ⟨hal,hln,hP⟩:=hI
  dsimp only at hal hln hP
  have hln:ns.length≤56:=by exact far [_,_] [] (.a Z0 (.n 56)) [.b Z1 (.n 9),.a Z0 (.m 7 Z1)] [1,7,1] (fm hr (fm hln fz)) rfl
  have hbn:Bytes ns:=fun k=>by
   rw [List.getD_eq_getElem?_getD]
   cases e:ns[k]? with
   | none=>exact ⟨Int.le_refl _,by decide⟩
   | some x=>
    have hx:x∈ns:=List.mem_of_getElem? e
    show 0≤x∧x<256
    rcases hal x hx with rfl | rfl | rfl | rfl <;> decide
  conv=>whnf
  refine ⟨hcp,?_⟩
  conv=>whnf
  refine drawO (m:=20) [_,_] [] hP rfl (by decide) (by decide) fun r6 P2 hr6 hP2=>?_
  obtain ⟨w,hw,hw1,hw2⟩:∃ w:Int,1+(r6:Nat)=w∧1≤w∧w≤20:=⟨_,rfl,by exact far [_] [] (.d (.z 1) (.q (.z 1) X0)) [] [1] fz rfl,by exact far [_] [] (.d (.q (.z 1) X0) (.z 20)) [.b Z0 (.n 20)] [1,1] (fm hr6 fz) rfl⟩
  obtain ⟨htok,htl⟩:=PL.tok ns w hal hln hw1 hw2
  obtain ⟨hum,hud⟩:=PL.sym ns w hal hln hw1 hw2
  have hfit:=PL.fits ns w hal hln hw1 hw2
  conv=>whnf
  refine CallP.list [] (.head _) (by show ns.length≤1000000; exact nA hln rfl) fun d2=>?_
  conv=>whnf
  refine tokens_spec (fun _ _=>[]) (by show ns.length≤900; exact nA hln rfl) hbn fun T as G ht=>?_
  rw [hw] at ht
  conv=>whnf
  refine CallP.sub (Sub.ix [2,0] 0 _) (hold_spec (ns:=ns) (ts:=toks ns w) [] (ht.mono fun q hq=>List.mem_append_right [_,_] (List.mem_append_right _ hq)) (by exact nA hln rfl) (by exact nA htl rfl) (hw ▸ hw1) (hw ▸ hfit) ?_)
  conv=>whnf
  refine ⟨fun _=>?_,fun q=>absurd rfl q⟩
  conv=>whnf
  refine CallP.list [] (.head _) (by show ns.length≤1000000; exact nA hln rfl) fun d3=>?_
  conv=>whnf
  refine CallP.sub (Sub.ix [0,1,2] 0 _) (squeeze_spec (ns:=ns) [] (by exact nA hln rfl) hbn (hw ▸ hw1) (by lia) (by rw [hw]; exact nA htl rfl) (by rw [hw]; exact htok) (by rw [hw]; omega) (by rw [hw]; omega) fun sA lm ld hfm hfd=>?_)
  rw [hw] at hfm hfd
  obtain ⟨hsB,hsx,hs1,hs2,hsm,hsn⟩:=PL.back ns w lm ld hal hln hw1 hw2 hfm hfd
  have hFr:∀ l' q,FrOk D.fr ((D.env.locals,.ns l')::(q++(P2++own))):=fun l' q=>by
   rw [hDf]
   exact FrOk.cons (by rw [hD]) (by rw [hD]) (.head _) (hF.mono fun y hy=>.tail _ (List.mem_append_right _ (List.mem_append_right _ hy)))
  rw [hw]
  generalize sqz ns w lm ld=sm at *
  conv=>whnf
  refine EvP.comp D [] [] rfl rfl (fun _=>rfl) ?_
  conv=>whnf
  refine CmP.go (ι:=Unit) D (itrList B sA (sm.map .int)) [("one",.any)] (fun j vs _=>vs=[]) (fun _=>(sA,ilst sm)::(dA,ilst ns)::(L+1+0,.cell (.ref p))::(P2++own)) () (fun j=>.int (sm.getD j 0)) (fun _ _ _=>[]) (fun _=>[.l [],.l []]) rfl ⟨rfl,fun p hp=>by rw [List.mem_singleton.mp hp]⟩ (fun j h=>ints_item h)
   (IterP.listS (.head _) ((Sub.pick .head (.pick .head (.pick .head (Sub.left _ _)))).trans (Sub.ix [0,3,2] 3 _))) list_self let_name rfl (fun _ _ _ q _=>List.mem_append_right q (.tail _ (.head _))) (fun j vs z h=>h ▸ Nat.zero_le _) (fun j vs z hj h ib D1 D2 N1 N0 h1 h0=>?_) (fun D2 vs z h=>?_)
  ·have hj:j<sm.length:=by simpa only [List.length_map] using (show j<(sm.map VS.int).length from hj)
   have hx:=hsx (sm.getD j 0) (by rw [List.getD_eq_getElem?_getD,List.getElem?_eq_getElem hj]; exact List.getElem_mem hj)
   conv=>whnf
   refine ⟨fun q=>absurd q (by lia),fun _=>?_⟩
   conv=>whnf
   refine ⟨fun q=>absurd q (by lia),fun _=>?_⟩
   conv=>whnf
   exact h0 () _ _ rfl h (Sub.refl _)
  ·rw [h]
   conv=>whnf
   intro e0
   conv=>whnf
   refine ⟨⟨by lia,.tail _ (.head _),.head _⟩,?_⟩
   refine ⟨fun _=>?_,fun q=>absurd rfl q⟩
   conv=>whnf
   refine CallP.list [] (.tail _ (.tail _ (.head _))) (by exact nA hs2 rfl) fun d4=>?_
   conv=>whnf
   refine unsqueeze_spec (m:=65536) (.inr ⟨rfl,rfl⟩) [.l ns,.l ns] hs2 hsB (by decide) (fun hn=>absurd hn (by rw [hsm 65536 (by lia)]; exact nofun)) fun out rA ho=>?_
   rw [hsm 65536 (by lia)] at ho
   cases ho
   conv=>whnf
   refine ⟨⟨by lia,.head _,.tail _ (.tail _ (.tail _ (.tail _ (.tail _ (.head _)))))⟩,?_⟩
   refine ⟨fun _=>?_,fun q=>absurd rfl q⟩
   conv=>whnf
   refine CallP.list [.l ns] (.tail _ (.tail _ (.tail _ (.tail _ (.head _))))) (by exact nA hs2 rfl) fun d5=>?_
   conv=>whnf
   refine ⟨⟨(at_mem (j:=6) rfl),by exact nD hln rfl⟩,?_⟩
   conv=>whnf
   refine unsqueeze_spec (m:=(ns.length:Nat)) (.inl rfl) [.l ns,.l ns,.b [] [.j]] hs2 hsB (by lia) (fun hn=>absurd hn (by rw [hsm _ (Int.le_refl _)]; exact nofun)) fun out rA2 ho=>?_
   rw [hsm _ (Int.le_refl _)] at ho
   cases ho
   conv=>whnf
   refine ⟨⟨by lia,.head _,.tail _ (.tail _ (.tail _ (.tail _ (.tail _ (.tail _ (.tail _ (.head _)))))))⟩,?_⟩
   refine ⟨fun _=>?_,fun q=>absurd rfl q⟩
   conv=>whnf
   refine StP.join (ι:=Unit) (fun _=>True) (fun _=>[("script",.ref sc),("data",.ref dA),("_",iv),("start_at",sv),("reach_back",.int w),("small",.ref sA),("spoiled",.any),("odd",.any)])
    (fun _=>(sA,ilst sm)::(dA,ilst ns)::(L+1+0,.cell (.ref p))::(P2++own)) [.l ns,.l []] (fun _=>[]) (fun N3 hN3=>?_) (fun _ _=>?_)
   ·conv=>whnf
    intro e1
    conv=>whnf
    refine ⟨⟨by lia,.tail _ (.tail _ (.tail _ (.tail _ (.tail _ (.tail _ (.tail _ (.tail _ (.head _)))))))),.head _⟩,?_⟩
    refine ⟨fun hnil=>?_,fun hnil=>?_⟩
    ·conv=>whnf
     exact hN3 () _ trivial (Sub.ix [7,7,7] 7 _)
    ·conv=>whnf
     refine StP.try_ ((sA,ilst sm)::(dA,ilst ns)::(L+1+0,.cell (.ref p))::(P2++own)) True [] ⟨_,hDf⟩ (hFr _ [_,_,_]) rfl (fun D' hD' hz' hX'=>?_) (fun hn A' Q s' hu H' k=>?_)
     ·conv=>whnf
      refine CallP.list [.l ns] (.tail _ (.tail _ (.tail _ (.tail _ (.tail _ (.tail _ (.tail _ (.head _)))))))) (by exact nA hs2 rfl) fun d6=>?_
      conv=>whnf
      refine ⟨⟨(at_mem (j:=9) rfl),by exact nD hln rfl⟩,?_⟩
      conv=>whnf
      refine unsqueeze_spec (m:=(ns.length:Nat)-1) (.inl rfl) [] hs2 hsB (by exact far [_] [] (.d (.s X0 (.z 1)) (.z 100000)) [.a Z0 (.n 56)] [1,1] (fm hln fz) rfl) (fun _=>⟨hz' trivial,by rw [hX']; exact Sub.ix [8,8,8] 8 _⟩) fun out rA3 ho=>?_
      rw [hsn hnil] at ho
      cases ho
     ·exact wpAny_execs_cons (wpAny_Pass (wpAny_execs_nil (k .next _ _ [] _ _ (hN3 () _ trivial (Sub.refl _)) rfl H')))
   ·conv=>whnf
    refine CallP.list [.j] (.head _) (by exact nA hs2 rfl) fun s2=>?_
    conv=>whnf
    refine StP.join (ι:=Addr×List Int×Led) (fun c'=>Pool p c c'.2.2∧c'.2.1.length≤128∧∀ x∈c'.2.1,0≤x∧x<256) (fun c'=>[("script",.ref sc),("data",.ref dA),("_",iv),("start_at",sv),("reach_back",.int w),("small",.ref sA),("spoiled",.ref c'.1),("odd",.any)])
     (fun c'=>(c'.1,ilst c'.2.1)::(sA,ilst sm)::(dA,ilst ns)::(L+1+0,.cell (.ref p))::(c'.2.2++own)) [.i 3] (fun _=>[]) (fun N3 hN3=>?_) (fun c' hc'=>?_)
    ·conv=>whnf
     refine ⟨hcp,?_⟩
     conv=>whnf
     refine drawO (m:=3) [_,_,_,_] [.b [] [.i 3]] hP2 rfl (by decide) (by decide) fun r7 P3 hr7 hP3=>?_
     conv=>whnf
     refine ⟨fun _=>?_,fun _=>?_⟩
     ·conv=>whnf
      refine EvP.slice [.i 3,.l sm] (fun _ _=>rfl) ?_
      conv=>whnf
      refine ⟨hcp,?_⟩
      conv=>whnf
      refine ⟨⟨(at_mem (j:=0) rfl),by exact nD hs2 rfl⟩,?_⟩
      conv=>whnf
      refine drawO (m:=sm.length) [_,_,_,_] [] hP3 rfl hs1 (Nat.le_trans hs2 (by decide)) fun r8 P4 hr8 hP4=>?_
      conv=>whnf
      refine ⟨Int.natCast_nonneg _,sm.map .int,by rw [List.length_map]; exact nA hs2 rfl,.inl (.head _),fun r=>?_⟩
      rw [← List.map_take,show ((r8:Nat):Int).toNat=r8 from rfl]
      conv=>whnf
      exact hN3 (r,sm.take r8,P4) _ ⟨hP4,by rw [List.length_take]; exact far [_,_,_] [] (.a Z0 (.n 128)) [.a Z1 (.n 128),.b Z2 Z1,.a Z0 Z2] [1,1,1,1] (fm hs2 (fm hr8 (fm (Nat.min_le_left _ _) fz))) rfl,fun x hx=>hsx x (List.mem_of_mem_take hx)⟩ (Sub.pick .head (.skip (.refl _)))
     ·conv=>whnf
      refine ⟨hcp,?_⟩
      conv=>whnf
      refine drawO (m:=256) [_,_,_,_] [.i 3,.l sm] hP3 rfl (by decide) (by decide) fun v P4 hv hP4=>?_
      conv=>whnf
      refine ⟨hcp,?_⟩
      conv=>whnf
      refine ⟨⟨(at_mem (j:=0) rfl),by exact nD hs2 rfl⟩,?_⟩
      conv=>whnf
      refine drawO (m:=sm.length) [_,_,_,_] [.u 0 sm] hP4 rfl hs1 (Nat.le_trans hs2 (by decide)) fun r8 P5 hr8 hP5=>?_
      conv=>whnf
      refine ⟨⟨Int.natCast_nonneg _,Int.ofNat_lt.mpr hr8,by exact nD hs2 rfl⟩,?_⟩
      conv=>whnf
      refine ⟨rfl,?_⟩
      conv=>whnf
      exact hN3 (s2,sm.set r8 (v:Nat),P5) _ ⟨hP5,by rw [List.length_set]; exact hs2,fun x hx=>(List.mem_or_eq_of_mem_set hx).elim (hsx x) fun e=>e ▸ ⟨Int.natCast_nonneg _,Int.ofNat_lt.mpr hv⟩⟩ (Sub.refl _)
    ·obtain ⟨s3,sp,P3⟩:=c'
     obtain ⟨hP3,hsp1,hsp2⟩:=hc'
     dsimp only at hP3 hsp1 hsp2
     have hF3:∀ l' q,FrOk D.fr ((D.env.locals,.ns l')::(q++((P3++own)))):=fun l' q=>by
      rw [hDf]
      exact FrOk.cons (by rw [hD]) (by rw [hD]) (.head _) (hF.mono fun y hy=>.tail _ (List.mem_append_right _ (List.mem_append_right _ hy)))
     have hspB:Bytes sp:=fun k=>by
      rw [List.getD_eq_getElem?_getD]
      cases e:sp[k]? with
      | none=>exact ⟨Int.le_refl _,by decide⟩
      | some x=>exact hsp2 x (List.mem_of_getElem? e)
     conv=>whnf
     refine StP.try_ ((s3,ilst sp)::(sA,ilst sm)::(P3++own)) (unsq sp 300=none) [] ⟨_,hDf⟩ (hF3 _ [_,_]) rfl (fun D' hD' hz' hX'=>?_) (fun hn A' Q s' hu H' k=>?_)
     ·conv=>whnf
      refine unsqueeze_spec (m:=300) (.inl rfl) [] hsp1 hspB (by decide) (fun hn=>⟨hz' hn,by rw [hX']; exact Sub.ix [0,0] 2 _⟩) fun out rA4 (ho:unsq sp 300=some out)=>?_
      obtain ⟨ho1,ho2⟩:=PL.odd sp out ho
      conv=>whnf
      refine CallP.len [] (.head _) (by lia) ?_
      conv=>whnf
      refine ⟨fun _=>?_,fun q=>absurd (decide_eq_true (show (out.length:Int)≤300 by exact Int.ofNat_le.mpr ‹_›)) q⟩
      conv=>whnf
      refine EvP.comp D [] [] rfl rfl (fun _=>rfl) ?_
      conv=>whnf
      refine CmP.go (ι:=Unit) D (itrList B rA4 (out.map .int)) [("one",.any)] (fun j vs _=>vs=[]) (fun _=>(rA4,ilst out)::own) () (fun j=>.int (out.getD j 0)) (fun _ _ _=>[]) (fun _=>[.l [],.l []]) rfl ⟨rfl,fun p hp=>by rw [List.mem_singleton.mp hp]⟩ (fun j h=>ints_item h)
       (IterP.listS (.head _) (.pick .head (.skip (.skip (.skip (.skip ⟨P3,List.perm_append_comm⟩)))))) list_self let_name rfl (fun _ _ _ q _=>List.mem_append_right q (.tail _ (.head _))) (fun j vs z h=>h ▸ Nat.zero_le _) (fun j vs z hj h ib D1 D2 N1 N0 h1 h0=>?_) (fun D2 vs z h=>?_)
      ·have hj:j<out.length:=by simpa only [List.length_map] using (show j<(out.map VS.int).length from hj)
       have hx:=ho2 (out.getD j 0) (by rw [List.getD_eq_getElem?_getD,List.getElem?_eq_getElem hj]; exact List.getElem_mem hj)
       conv=>whnf
       refine ⟨fun q=>absurd q (by lia),fun _=>?_⟩
       conv=>whnf
       refine ⟨fun q=>absurd q (by lia),fun _=>?_⟩
       conv=>whnf
       exact h0 () _ _ rfl h (Sub.refl _)
      ·rw [h]
       conv=>whnf
       intro e2
       conv=>whnf
       refine ⟨⟨by lia,.tail _ (.head _),.head _⟩,?_⟩
       rw [show decide (([]:List Int)=[])=true from rfl]
       exact hN (.bool true) _ ⟨rfl,.skip (.skip (.skip (.refl _)))⟩
     ·have hne:sp≠sm:=fun q=>by
       rw [q,hsm 300 (by exact far [_] [] (.d X0 (.z 300)) [.a Z0 (.n 56)] [1,1] (fm hln fz) rfl)] at hn
       cases hn
      refine wpAny_execs_cons (wpAny_Return_some (wpAny_Compare1 (ldL H' (.head _) rfl (lkp_mem (x:=Str.ofString "spoiled") rfl) (ldL H' (.head _) rfl (lkp_mem (x:=Str.ofString "small") rfl) (l_ne_ints H' (.tail _ (.head _)) (.tail _ (.tail _ (.head _))) (by rw [hu]; exact Rm.cl64 D.R) ?_) D.hk (by rw [hD]; rfl) rfl) D.hk (by rw [hD]; rfl) rfl) rfl))
      rw [show (!decide (sp=sm))=true by rw [decide_eq_false hne]; rfl]
      exact k (.ret (.bool true)) _ _ [] _ _ (hN (.bool true) _ ⟨rfl,.skip (.skip ⟨P3,List.perm_append_comm⟩)⟩) ⟨_,rfl,rfl⟩ H'
end
end
end Mine
namespace Mine
theorem runGo_sym (ns:List Int) (p q:Nat):∀ k c,runGo ns p q k c=runGo ns q p k c
 | 0,_=>rfl
 | k+1,c=>by
  unfold runGo
  by_cases h:ns.getD (p+c) 0=ns.getD (q+c) 0
  ·rw [if_pos h,if_pos h.symm,runGo_sym ns p q k]
  ·rw [if_neg h,if_neg fun x=>h x.symm]
theorem run_sym (ns:List Int) (p q m:Nat):run ns p q m=run ns q p m:=runGo_sym ns p q m 0
theorem run_le (ns:List Int) (p q m:Nat):run ns p q m≤m:=by
 have:=runGo_le ns p q m 0
 unfold run; exact far [_,_] [] (.a Z0 Z1) [.a Z0 (.p (.n 0) Z1)] [1,1] (fm this.2 fz) rfl
theorem runGo_eq (ns:List Int) (p q:Nat):∀ k c j,c≤j→j<runGo ns p q k c→ns.getD (p+j) 0=ns.getD (q+j) 0
 | 0,c,j,h1,h2=>by unfold runGo at h2; lia
 | k+1,c,j,h1,h2=>by
  unfold runGo at h2
  split at h2
  ·rename_i h
   rcases Nat.lt_or_ge c j with h3 | h3
   ·exact runGo_eq ns p q k (c+1) j h3 h2
   ·have:j=c:=by exact Nat.le_antisymm (far [_,_] [] (.a Z0 Z1) [.a Z0 Z1] [1,1] (fm h3 fz) rfl) (far [_,_] [] (.a Z0 Z1) [.a Z0 Z1] [1,1] (fm h1 fz) rfl)
    subst this; exact h
  ·lia
theorem run_eq {ns:List Int} {p q m j:Nat} (h:j<run ns p q m):ns.getD (p+j) 0=ns.getD (q+j) 0:=runGo_eq ns p q m 0 j (Nat.zero_le _) h
theorem run_three {ns:List Int} {p q m:Nat} (hm:3≤m) (h0:ns.getD p 0=ns.getD q 0) (h1:ns.getD (p+1) 0=ns.getD (q+1) 0) (h2:ns.getD (p+2) 0=ns.getD (q+2) 0):3≤run ns p q m:=by
 obtain ⟨k,rfl⟩:∃ k,m=k+3:=⟨m-3,by exact Nat.le_antisymm (far [_,_] [] (.a Z0 (.p Z1 (.n 3))) [.a Z0 (.p Z1 (.n 3))] [1,1] (fm (ns1 _ _) fz) rfl) (far [_,_] [] (.a (.p Z0 (.n 3)) Z1) [.c (.p Z0 (.n 3)) Z1] [1,1] (fm (ns2 (far [_] [] (.a (.n 3) Z0) [.a (.n 3) Z0] [1,1] (fm hm fz) rfl)) fz) rfl)⟩
 unfold run
 rw [show k+3=(k+2)+1 from rfl]
 unfold runGo
 rw [if_pos (show ns.getD (p+0) 0=ns.getD (q+0) 0 from h0),show k+2=(k+1)+1 from rfl]
 unfold runGo
 rw [if_pos (show ns.getD (p+(0+1)) 0=ns.getD (q+(0+1)) 0 from h1)]
 unfold runGo
 rw [if_pos (show ns.getD (p+(0+1+1)) 0=ns.getD (q+(0+1+1)) 0 from h2)]
 have:=runGo_le ns p q k (0+1+1+1)
 exact far [_] [] (.a (.n 3) Z0) [.a (.p (.p (.p (.n 0) (.n 1)) (.n 1)) (.n 1)) Z0] [1,1] (fm this.1 fz) rfl
noncomputable def Good (ns:List Int) (a m:Nat) (S:Nat→Prop) (b:Nat×Nat):Prop:=
 (b=(0,0)∧∀ p,S p→run ns a p m=0)∨∃ q,S q∧b=(run ns a q m,a-q)∧0<run ns a q m∧∀ p,S p→run ns a p m≤run ns a q m∧(run ns a p m=run ns a q m→p≤q)
theorem bestGo_good {ns:List Int} {a m:Nat} {w:Int}:∀ (ps:List Nat) (b:Nat×Nat) (S:Nat→Prop),ps.Pairwise (fun x y=>y<x)→(∀ x,S x→∀ p∈ps,p<x)→(∀ p∈ps,p<a)→Good ns a m S b→
  Good ns a m (fun p=>S p∨(p∈ps∧(a:Int)-w≤p)) (bestGo ns a m w ps b)
 | [],b,S,_,_,_,hg=>by
  have e:(fun p=>S p∨(p∈([]:List Nat)∧(a:Int)-w≤p))=S:=by funext p; simp
  rw [e]; exact hg
 | p::ps,b,S,hpw,hS,ha,hg=>by
  have hpw':=List.pairwise_cons.mp hpw
  rw [bestGo_cons]
  by_cases hw:(a:Int)-p>w
  ·rw [if_pos (.inl hw)]
   have e:(fun x=>S x∨(x∈p::ps∧(a:Int)-w≤x))=S:=by
    funext x
    refine propext ⟨fun h=>?_,.inl⟩
    rcases h with h | ⟨h1,h2⟩
    ·exact h
    ·exfalso
     rcases List.mem_cons.mp h1 with rfl | h1
     ·exact farF [_,_] [_] [.d (.s X0 Y0) X1,.e Y0 (.s X0 X1)] [1,1] (fm h2 (fm hw fz)) rfl
     ·have:=hpw'.1 x h1; lia
   rw [e]; exact hg
  by_cases hm:b.1=m
  ·rw [if_pos (.inr hm)]
   rcases hg with ⟨rfl,h0⟩ | ⟨q,hq,rfl,hq0,hq1⟩
   ·have hm:m=0:=hm.symm
    subst hm
    exact .inl ⟨rfl,fun x _=>Nat.le_zero.mp (run_le ns a x 0)⟩
   ·have hm:run ns a q m=m:=hm
    refine .inr ⟨q,.inl hq,rfl,hq0,fun x hx=>?_⟩
    rcases hx with hx | ⟨h1,h2⟩
    ·exact hq1 x hx
    ·have:=hS q hq x h1
     have:=run_le ns a x m
     exact ⟨by exact far [_,_,_] [] (.a Z0 Z1) [.c Z1 Z2,.a Z0 Z2] [1,-1,1] (fm hm (fm this fz)) rfl,fun _=>by exact Nat.le_of_lt ‹_›⟩
  rw [if_neg (by rintro (h | h); exact hw h; exact hm h)]
  have hS':∀ x,(S x∨x=p)→∀ y∈ps,y<x:=fun x hx y hy=>by
   rcases hx with hx | rfl
   ·exact hS x hx y (.tail _ hy)
   ·exact hpw'.1 y hy
  have hg':Good ns a m (fun x=>S x∨x=p) (if run ns a p m>b.1 then (run ns a p m,a-p) else b):=by
   rcases hg with ⟨rfl,h0⟩ | ⟨q,hq,rfl,hq0,hq1⟩
   ·by_cases hr:run ns a p m>0
    ·rw [if_pos hr]
     refine .inr ⟨p,.inr rfl,rfl,hr,fun x hx=>?_⟩
     rcases hx with hx | rfl
     ·have:=h0 x hx; exact ⟨by exact far [_,_] [] (.a Z0 Z1) [.b (.n 0) Z1,.c Z0 (.n 0)] [1,1,1] (fm hr (fm this fz)) rfl,fun _=>by lia⟩
     ·exact ⟨Nat.le_refl _,fun _=>Nat.le_refl _⟩
    ·rw [if_neg hr]
     refine .inl ⟨rfl,fun x hx=>?_⟩
     rcases hx with hx | rfl
     ·exact h0 x hx
     ·exact Nat.le_antisymm (far [_] [] (.a Z0 (.n 0)) [.g (.b (.n 0) Z0)] [1,1] (fm hr fz) rfl) (far [_] [] (.a (.n 0) Z0) [] [1] fz rfl)
   ·by_cases hr:run ns a p m>run ns a q m
    ·rw [if_pos hr]
     refine .inr ⟨p,.inr rfl,rfl,by exact far [_,_] [] (.b (.n 0) Z0) [.b Z1 Z0,.b (.n 0) Z1] [1,1,1] (fm hr (fm hq0 fz)) rfl,fun x hx=>?_⟩
     rcases hx with hx | rfl
     ·have:=(hq1 x hx).1; exact ⟨by exact far [_,_,_] [] (.a Z0 Z1) [.b Z2 Z1,.a Z0 Z2] [1,1,1] (fm hr (fm this fz)) rfl,fun _=>by lia⟩
     ·exact ⟨Nat.le_refl _,fun _=>Nat.le_refl _⟩
    ·rw [if_neg hr]
     refine .inr ⟨q,.inl hq,rfl,hq0,fun x hx=>?_⟩
     rcases hx with hx | rfl
     ·exact hq1 x hx
     ·have:=hS q hq x (.head _)
      exact ⟨by exact far [_,_] [] (.a Z0 Z1) [.g (.b Z1 Z0)] [1,1] (fm hr fz) rfl,fun _=>by exact Nat.le_of_lt ‹_›⟩
  have ih:=bestGo_good ps _ (fun x=>S x∨x=p) hpw'.2 hS' (fun x hx=>ha x (.tail _ hx)) hg' (w:=w)
  have e:(fun x=>(S x∨x=p)∨(x∈ps∧(a:Int)-w≤x))=(fun x=>S x∨(x∈p::ps∧(a:Int)-w≤x)):=by
   funext x
   refine propext ⟨fun h=>?_,fun h=>?_⟩
   ·rcases h with (h | rfl) | ⟨h1,h2⟩
    ·exact .inl h
    ·exact .inr ⟨.head _,by exact far [_,_] [_] (.d (.s X0 Y0) X1) [.g (.e Y0 (.s X0 X1))] [1,1] (fm hw fz) rfl⟩
    ·exact .inr ⟨.tail _ h1,h2⟩
   ·rcases h with h | ⟨h1,h2⟩
    ·exact .inl (.inl h)
    ·rcases List.mem_cons.mp h1 with rfl | h1
     ·exact .inl (.inr rfl)
     ·exact .inr ⟨h1,h2⟩
  rw [e] at ih
  exact ih
theorem best_spec {ns:List Int} {w:Int} {a:Nat} (hb:Bytes ns) (ha:a<ns.length):
  (best ns w a=(0,0)∧∀ q:Nat,(a:Int)-w≤q→q<a→run ns q a (wm ns a)<3) ∨
  ∃ q:Nat,(a:Int)-w≤q∧q<a∧3≤run ns q a (wm ns a)∧best ns w a=(run ns q a (wm ns a),a-q)∧∀ q':Nat,(a:Int)-w≤q'→q'<a→run ns q' a (wm ns a)≤run ns q a (wm ns a)∧(run ns q' a (wm ns a)=run ns q a (wm ns a)→q'≤q):=by
 unfold best
 by_cases h3:a+3≤ns.length
 ·rw [if_pos h3]
  have hm:3≤wm ns a:=by unfold wm; lia
  have hmem:∀ q,q∈(plc ns (keyAt ns a) a).reverse ↔ q<a∧keyAt ns q=keyAt ns a:=fun q=>by
   rw [List.mem_reverse]
   unfold plc
   rw [List.mem_filter,List.mem_range]
   simp
  have hpw:(plc ns (keyAt ns a) a).reverse.Pairwise (fun x y=>y<x):=by
   rw [List.pairwise_reverse]
   exact List.pairwise_lt_range.filter _
  have hin:∀ q,q<a→(keyAt ns q=keyAt ns a ↔ 3≤run ns q a (wm ns a)):=fun q hq=>by
   have b0:=hb q
   have b1:=hb (q+1)
   have b2:=hb (q+2)
   have c0:=hb a
   have c1:=hb (a+1)
   have c2:=hb (a+2)
   refine ⟨fun h=>?_,fun h=>?_⟩
   ·unfold keyAt at h
    exact run_three hm (by lia) (by omega) (by lia)
   ·have d0:=run_eq (j:=0) (Nat.lt_of_lt_of_le (by lia) h)
    have d1:=run_eq (j:=1) (Nat.lt_of_lt_of_le (by lia) h)
    have d2:=run_eq (j:=2) (Nat.lt_of_lt_of_le (by lia) h)
    unfold keyAt
    rw [Nat.add_zero,Nat.add_zero] at d0
    rw [d0,d1,d2]
  have g:=bestGo_good (ns:=ns) (a:=a) (m:=wm ns a) (w:=w) (plc ns (keyAt ns a) a).reverse (0,0) (fun _=>False) hpw (fun _ h=>h.elim) (fun p hp=>((hmem p).mp hp).1) (.inl ⟨rfl,fun _ h=>h.elim⟩)
  rcases g with ⟨g1,g2⟩ | ⟨q,g1,g2,g3,g4⟩
  ·refine .inl ⟨g1,fun q h1 h2=>?_⟩
   rcases Nat.lt_or_ge (run ns q a (wm ns a)) 3 with h | h
   ·exact h
   ·have:=g2 q (.inr ⟨(hmem q).mpr ⟨h2,(hin q h2).mpr h⟩,h1⟩)
    rw [run_sym] at this
    exact far [_] [] (.b Z0 (.n 3)) [.c Z0 (.n 0)] [1,1] (fm this fz) rfl
  ·rcases g1 with g1 | ⟨g1,g5⟩
   ·exact g1.elim
   have g6:=(hmem q).mp g1
   have g7:=(hin q g6.1).mp g6.2
   refine .inr ⟨q,g5,g6.1,g7,by rw [run_sym ns q a]; exact g2,fun q' h1 h2=>?_⟩
   rcases Nat.lt_or_ge (run ns q' a (wm ns a)) 3 with h | h
   ·exact ⟨by exact far [_,_] [] (.a Z0 Z1) [.b Z0 (.n 3),.a (.n 3) Z1] [1,1,1] (fm h (fm g7 fz)) rfl,fun _=>by lia⟩
   ·have:=g4 q' (.inr ⟨(hmem q').mpr ⟨h2,(hin q' h2).mpr h⟩,h1⟩)
    rw [run_sym ns a q',run_sym ns a q] at this
    exact this
 ·rw [if_neg h3]
  refine .inl ⟨rfl,fun q _ _=>?_⟩
  have:=run_le ns q a (wm ns a)
  unfold wm at this ⊢
  exact far [_,_,_,_,_] [] (.b Z0 (.n 3)) [.g (.a (.p Z1 (.n 3)) Z2),.a Z0 Z3,.a Z3 Z4,.c (.p Z4 Z1) Z2] [1,1,1,1,1] (fm h3 (fm this (fm (Nat.min_le_right _ _) (fm (ns2 (far [_,_] [] (.a Z0 Z1) [.b Z0 Z1] [1,1] (fm ha fz) rfl)) fz)))) rfl
theorem fits_go {ns:List Int} {w:Int} (hb:Bytes ns):∀ (f a:Nat),a≤ns.length→ns.length≤f+a→Fits ns w a (tokGo ns w f a)
 | 0,a,h1,h2=>by show a=ns.length; exact Nat.le_antisymm (far [_,_] [] (.a Z0 Z1) [.a Z0 Z1] [1,1] (fm h1 fz) rfl) (far [_,_] [] (.a Z0 Z1) [.a Z0 (.p (.n 0) Z1)] [1,1] (fm h2 fz) rfl)
 | f+1,a,h1,h2=>by
  unfold tokGo
  by_cases ha:a<ns.length
  ·rw [if_pos ha]
   refine ⟨ha,?_⟩
   rcases best_spec (w:=w) hb ha with ⟨h3,h4⟩ | ⟨q,q1,q2,q3,q4,q5⟩
   ·left
    rw [h3]
    exact ⟨rfl,h4,rfl,fits_go hb f (a+1) ha (by exact far [_,_,_] [] (.a Z0 (.p Z1 (.p Z2 (.n 1)))) [.a Z0 (.p (.p Z1 (.n 1)) Z2)] [1,1] (fm h2 fz) rfl)⟩
   ·right
    rw [q4]
    have hl:=run_le ns q a (wm ns a)
    have hw:wm ns a≤ns.length-a:=by unfold wm; exact far [_,_] [] (.a Z0 Z1) [.a Z0 Z1] [1,1] (fm (Nat.min_le_right _ _) fz) rfl
    dsimp only
    rw [if_pos (show run ns q a (wm ns a)>0 by exact far [_] [] (.b (.n 0) Z0) [.a (.n 3) Z0] [1,1] (fm q3 fz) rfl)]
    refine ⟨q,q1,q2,q3,q5,rfl,rfl,?_⟩
    rw [show max (run ns q a (wm ns a)) 1=run ns q a (wm ns a) by lia]
    exact fits_go hb f _ (by exact far [_,_,_,_,_] [] (.a (.p Z0 Z1) Z2) [.a Z1 Z3,.a Z3 Z4,.c (.p Z4 Z0) Z2] [1,1,1,1] (fm hl (fm hw (fm (ns2 (far [_,_] [] (.a Z0 Z1) [.b Z0 Z1] [1,1] (fm ha fz) rfl)) fz))) rfl) (by exact far [_,_,_,_] [] (.a Z0 (.p Z1 (.p Z2 Z3))) [.a Z0 (.p (.p Z1 (.n 1)) Z2),.a (.n 3) Z3] [1,1,1] (fm h2 (fm q3 fz)) rfl)
  ·rw [if_neg ha]
   show a=ns.length
   exact Nat.le_antisymm (far [_,_] [] (.a Z0 Z1) [.a Z0 Z1] [1,1] (fm h1 fz) rfl) (far [_,_] [] (.a Z0 Z1) [.g (.b Z1 Z0)] [1,1] (fm ha fz) rfl)
theorem fits_toks {ns:List Int} {w:Int} (hb:Bytes ns):Fits ns w 0 (toks ns w):=fits_go hb ns.length 0 (Nat.zero_le _) (by lia)
end Mine
namespace Mine
open PySem
theorem toBits_succ (v:Int) (w:Nat):toBits v (w+1)=v / 2 ^ w % 2::toBits v w:=by
 unfold toBits
 rw [List.range_succ_eq_map,List.map_cons,List.map_map]
 congr 1
 refine List.map_congr_left fun i _=>?_
 show v / 2 ^ (w+1-1-(i+1)) % 2=_
 rw [show w+1-1-(i+1)=w-1-i by lia]
theorem toBits_01 (v:Int) (w:Nat):∀ b∈toBits v w,b=0∨b=1:=fun b hb=>by
 obtain ⟨i,_,rfl⟩:=List.mem_map.mp hb
 lia
theorem div_step (c:Int) (k:Nat):c / 2 ^ (k+1)*2+c / 2 ^ k % 2=c / 2 ^ k:=by
 have h:c / 2 ^ (k+1)=c / 2 ^ k / 2:=by
  rw [Int.pow_succ,Int.ediv_ediv_of_nonneg (Int.le_of_lt (pow_pos2 k))]
 rw [h]; exact Int.le_antisymm (far [] [_,_,_] (.d (.q (.u Y0 2) Y1) Y2) [.f (.q (.o 2 Y0) Y1) Y2] [1,1] (fm (im3 _ _) fz) rfl) (far [] [_,_,_] (.d Y0 (.q (.u Y1 2) Y2)) [.f (.q (.o 2 Y1) Y2) Y0] [1,-1] (fm (im3 _ _) fz) rfl)
theorem rdB_to (v:Int):∀ (w:Nat) (u:Int) (r:List Int),rdB (toBits v w++r) w u=some (u*2 ^ w+v % 2 ^ w,r)
 | 0,u,r=>by
  rw [rdB_zero]
  have:v % 2 ^ 0=0:=by simp [Int.emod_one]
  rw [this]
  simp [toBits]
 | w+1,u,r=>by
  rw [toBits_succ]
  show rdB (toBits v w++r) w (u*2+v / 2 ^ w % 2)=_
  rw [rdB_to v w]
  congr 2
  have hp:=pow_pos2 w
  have e:v % 2 ^ (w+1)=v / 2 ^ w % 2*2 ^ w+v % 2 ^ w:=by
   have h1:=Int.mul_ediv_add_emod v (2 ^ w)
   have h2:=Int.mul_ediv_add_emod (v / 2 ^ w) 2
   have h3:=Int.mul_ediv_add_emod v (2 ^ (w+1))
   have h4:v / 2 ^ (w+1)=v / 2 ^ w / 2:=by rw [Int.pow_succ,Int.ediv_ediv_of_nonneg (Int.le_of_lt hp)]
   rw [h4] at h3
   generalize v / 2 ^ w / 2=x at *
   generalize hy:v / 2 ^ w % 2=y at *
   generalize hz:v / 2 ^ w=z at *
   rw [Int.pow_succ] at h3 ⊢
   have h5:z=2*x+y:=by exact Int.le_antisymm (far [] [_,_,_] (.d Y0 (.q (.o 2 Y1) Y2)) [.f (.q (.o 2 Y1) Y2) Y0] [1,-1] (fm h2 fz) rfl) (far [] [_,_,_] (.d (.q (.o 2 Y0) Y1) Y2) [.f (.q (.o 2 Y0) Y1) Y2] [1,1] (fm h2 fz) rfl)
   rw [h5] at h1
   have e1:(2:Int) ^ w*(2*x+y)=2 ^ w*2*x+2 ^ w*y:=by rw [Int.mul_add,Int.mul_assoc]
   have e2:y*2 ^ w=2 ^ w*y:=Int.mul_comm ..
   rw [e2]
   exact Int.le_antisymm (far [] [_,_,_,_,_,_] (.d Y0 (.q Y1 Y2)) [.f (.q Y3 Y0) Y4,.f (.q Y5 Y2) Y4,.f Y5 (.q Y3 Y1)] [1,1,-1,1] (fm h3 (fm h1 (fm e1 fz))) rfl) (far [] [_,_,_,_,_,_] (.d (.q Y0 Y1) Y2) [.f (.q Y3 Y2) Y4,.f (.q Y5 Y1) Y4,.f Y5 (.q Y3 Y0)] [1,-1,1,-1] (fm h3 (fm h1 (fm e1 fz))) rfl)
  rw [e,Int.add_mul,Int.mul_assoc,Int.pow_succ,Int.mul_comm (2 ^ w) 2]
  exact Int.le_antisymm (far [] [_,_,_] (.d (.q (.q Y0 Y1) Y2) (.q Y0 (.q Y1 Y2))) [] [1] fz rfl) (far [] [_,_,_] (.d (.q Y0 (.q Y1 Y2)) (.q (.q Y0 Y1) Y2)) [] [1] fz rfl)
theorem cgo_ge3:∀ (ps:List (Int×Int)) (c b:Int),ps.Pairwise (fun p q=>plt p q=true)→(∀ p∈ps,b≤p.1)→0≤c→∀ x∈cgo c b ps,b≤x.2.2∧c*2 ^ (x.2.2-b).toNat≤x.2.1
 | [],_,_,_,_,_,_,hx=>nomatch hx
 | (l,s)::r,c,b,hs,hb,hc,x,hx=>by
  have hs':=List.pairwise_cons.mp hs
  have hbl:=hb _ (.head _)
  dsimp only at hbl
  rcases List.mem_cons.mp hx with rfl | hx
  ·exact ⟨hbl,Int.le_refl _⟩
  ·have hl:∀ p∈r,l≤p.1:=fun p hp=>by
    have:=hs'.1 p hp
    simp only [plt,decide_eq_true_eq] at this
    lia
   have hc':0≤c*2 ^ (l-b).toNat:=Int.mul_nonneg hc (Int.le_of_lt (pow_pos2 _))
   have ih:=cgo_ge3 r (c*2 ^ (l-b).toNat+1) l hs'.2 hl (by exact far [] [_] (.d (.z 0) (.q Y0 (.z 1))) [.d (.z 0) Y0] [1,1] (fm hc' fz) rfl) x hx
   refine ⟨by exact far [] [_,_,_] (.d Y0 Y1) [.d Y0 Y2,.d Y2 Y1] [1,1,1] (fm hbl (fm ih.1 fz)) rfl,?_⟩
   have e:=pow_split' (a:=b) (b:=l) (g:=x.2.2) hbl ih.1
   rw [e,← Int.mul_assoc]
   have hp:=pow_pos2 (x.2.2-l).toNat
   have:c*2 ^ (l-b).toNat*2 ^ (x.2.2-l).toNat≤(c*2 ^ (l-b).toNat+1)*2 ^ (x.2.2-l).toNat:=by rw [Int.add_mul]; exact far [] [_,_] (.d Y0 (.q Y0 (.o 1 Y1))) [.e (.z 0) Y1] [1,1] (fm hp fz) rfl
   exact far [] [_,_,_] (.d Y0 Y1) [.d Y2 Y1,.d Y0 Y2] [1,1,1] (fm ih.2 (fm this fz)) rfl
theorem cgo_pref:∀ (ps:List (Int×Int)) (c b:Int),ps.Pairwise (fun p q=>plt p q=true)→(∀ p∈ps,b≤p.1)→0≤c→
  (cgo c b ps).Pairwise fun y x=>y.2.2≤x.2.2∧(y.2.1+1)*2 ^ (x.2.2-y.2.2).toNat≤x.2.1
 | [],_,_,_,_,_=>List.Pairwise.nil
 | (l,s)::r,c,b,hs,hb,hc=>by
  have hs':=List.pairwise_cons.mp hs
  have hl:∀ p∈r,l≤p.1:=fun p hp=>by
   have:=hs'.1 p hp
   simp only [plt,decide_eq_true_eq] at this
   lia
  have hc':0≤c*2 ^ (l-b).toNat:=Int.mul_nonneg hc (Int.le_of_lt (pow_pos2 _))
  refine List.Pairwise.cons (fun x hx=>cgo_ge3 r (c*2 ^ (l-b).toNat+1) l hs'.2 hl (by exact far [] [_] (.d (.z 0) (.q Y0 (.z 1))) [.d (.z 0) Y0] [1,1] (fm hc' fz) rfl) x hx) (cgo_pref r (c*2 ^ (l-b).toNat+1) l hs'.2 hl (by exact far [] [_] (.d (.z 0) (.q Y0 (.z 1))) [.d (.z 0) Y0] [1,1] (fm hc' fz) rfl))
theorem codes_pref (lens:List Int):(codes lens).Pairwise fun y x=>y.2.2≤x.2.2∧(y.2.1+1)*2 ^ (x.2.2-y.2.2).toNat≤x.2.1:=
 cgo_pref _ _ _ (osy_sorted lens) (fun p hp=>Int.le_of_lt (osy_lo hp)) (Int.le_refl _)
theorem pair_or {α:Type} {R:α→α→Prop} {l:List α} (h:l.Pairwise R) {a b:α} (ha:a∈l) (hb:b∈l):a=b∨R a b∨R b a:=by
 induction l with
 | nil=>cases ha
 | cons c l ih=>
  have h':=List.pairwise_cons.mp h
  rcases List.mem_cons.mp ha with e | ha'
  ·rcases List.mem_cons.mp hb with e2 | hb'
   ·exact .inl (e.trans e2.symm)
   ·rw [e]; exact .inr (.inl (h'.1 b hb'))
  ·rcases List.mem_cons.mp hb with e2 | hb'
   ·rw [e2]; exact .inr (.inr (h'.1 a ha'))
   ·exact ih h'.2 ha' hb'
theorem no_pref {lens:List Int} {x y:Int×Int×Int} (hx:x∈codes lens) (hy:y∈codes lens) (hne:y≠x) (hl:y.2.2≤x.2.2):x.2.1 / 2 ^ (x.2.2-y.2.2).toNat≠y.2.1:=by
 intro e
 have hp:=pow_pos2 (x.2.2-y.2.2).toNat
 rcases pair_or (codes_pref lens) hy hx with q | ⟨_,q⟩ | ⟨q0,q⟩
 ·exact hne q
 ·have:=(Int.le_ediv_iff_mul_le hp).mpr q
  lia
 ·have h0:x.2.2-y.2.2=0:=by exact Int.le_antisymm (far [] [_,_] (.d (.s Y0 Y1) (.z 0)) [.d Y0 Y1] [1,1] (fm q0 fz) rfl) (far [] [_,_] (.d (.z 0) (.s Y0 Y1)) [.d Y1 Y0] [1,1] (fm hl fz) rfl)
  have h1:y.2.2-x.2.2=0:=by exact Int.le_antisymm (far [] [_,_] (.d (.s Y0 Y1) (.z 0)) [.d Y0 Y1] [1,1] (fm hl fz) rfl) (far [] [_,_] (.d (.z 0) (.s Y0 Y1)) [.d Y1 Y0] [1,1] (fm q0 fz) rfl)
  rw [h0] at e
  rw [h1] at q
  simp at e q
  lia
theorem symL_go {lens:List Int} (hok:CodesOk lens) {x:Int×Int×Int} (hx:x∈codes lens) (r:List Int):∀ (j n:Nat) (c:Int),(j:Int)≤x.2.2→j+(n-j)=n→1≤j→j≤n→c=x.2.1 / 2 ^ j→
  symL (codes lens) n c (x.2.2-j) (toBits x.2.1 j++r)=some (x.1,r)
 | 0,_,_,_,_,h,_,_=>by lia
 | j+1,n,c,hj,hn,_,hjn,hc=>by
  obtain ⟨n,rfl⟩:∃ n',n=n'+1:=⟨n-1,by exact Nat.le_antisymm (far [_,_] [] (.a Z0 (.p Z1 (.n 1))) [.a Z0 (.p Z1 (.n 1))] [1,1] (fm (ns1 _ _) fz) rfl) (far [_,_] [] (.a (.p Z0 (.n 1)) Z1) [.c (.p Z0 (.n 1)) Z1] [1,1] (fm (ns2 (far [_,_] [] (.a (.n 1) Z0) [.a (.p Z1 (.n 1)) Z0] [1,1] (fm hjn fz) rfl)) fz) rfl)⟩
  rw [toBits_succ,List.cons_append,symL_cons]
  have e1:c*2+x.2.1 / 2 ^ j % 2=x.2.1 / 2 ^ j:=by rw [hc]; exact div_step _ _
  have e2:x.2.2-((j+1:Nat):Int)+1=x.2.2-j:=by exact Int.le_antisymm (far [_] [_] (.d (.q (.s Y0 (.t (.p Z0 (.n 1)))) (.z 1)) (.s Y0 X0)) [] [1] fz rfl) (far [_] [_] (.d (.s Y0 X0) (.q (.s Y0 (.t (.p Z0 (.n 1)))) (.z 1))) [] [1] fz rfl)
  rw [e1,e2]
  cases hf:(codes lens).find? (fun y=>decide (y.2.1=x.2.1 / 2 ^ j∧y.2.2=x.2.2-j)) with
  | some y=>
   have hy:=List.mem_of_find?_eq_some hf
   have hp:=List.find?_some hf
   simp only [decide_eq_true_eq] at hp
   by_cases hyx:y=x
   ·subst hyx
    have:j=0:=by exact Nat.le_antisymm (far [_] [_] (.a Z0 (.n 0)) [.f Y0 (.s Y0 X0)] [1,1] (fm hp.2 fz) rfl) (far [_] [] (.a (.n 0) Z0) [] [1] fz rfl)
    subst this
    show some (y.1,toBits y.2.1 0++r)=_
    simp [toBits]
   ·exfalso
    refine no_pref hx hy hyx (by exact far [_] [_,_] (.d Y0 Y1) [.f Y0 (.s Y1 X0)] [1,1] (fm hp.2 fz) rfl) ?_
    rw [hp.1,show (x.2.2-y.2.2).toNat=j by exact Nat.le_antisymm (far [_,_] [_,_] (.a Z0 Z1) [.f Y0 (.s Y1 X1),.f X0 (.s Y1 Y0)] [1,-1,1] (fm hp.2 (fm (it2 (far [_] [_,_] (.d (.z 0) (.s Y0 Y1)) [.f Y1 (.s Y0 X0)] [1,1] (fm hp.2 fz) rfl)) fz)) rfl) (far [_,_] [_,_] (.a Z0 Z1) [.f Y0 (.s Y1 X0),.d (.s Y1 Y0) X1] [1,1,1] (fm hp.2 (fm (it1 _) fz)) rfl)]
  | none=>
   have hj0:j≠0:=by
    intro q
    subst q
    have:=List.find?_eq_none.mp hf x hx
    simp at this
   refine symL_go hok hx r j n _ (by exact Int.le_of_lt ‹_›) (by exact Nat.le_antisymm (far [_,_,_] [] (.a (.p Z0 Z1) Z2) [.c (.p Z1 Z0) Z2] [1,1] (fm (ns2 (far [_,_] [] (.a Z0 Z1) [.a (.p Z0 (.n 1)) (.p Z1 (.n 1))] [1,1] (fm hjn fz) rfl)) fz) rfl) (far [_,_,_] [] (.a Z0 (.p Z1 Z2)) [.a Z0 (.p Z2 Z1)] [1,1] (fm (ns1 _ _) fz) rfl)) (by lia) (by exact far [_,_] [] (.a Z0 Z1) [.a (.p Z0 (.n 1)) (.p Z1 (.n 1))] [1,1] (fm hjn fz) rfl) rfl
theorem mxl_ge:∀ (cs:List (Int×Int×Int)) (m:Int),m≤cs.foldl (fun m x=>max m x.2.2) m∧∀ x∈cs,x.2.2≤cs.foldl (fun m x=>max m x.2.2) m
 | [],m=>⟨Int.le_refl _,fun _ h=>nomatch h⟩
 | y::cs,m=>by
  have ih:=mxl_ge cs (max m y.2.2)
  show m≤cs.foldl _ (max m y.2.2)∧_
  refine ⟨by omega,fun x hx=>?_⟩
  rcases List.mem_cons.mp hx with rfl | hx
  ·show x.2.2≤cs.foldl _ (max m x.2.2); omega
  ·exact ih.2 x hx
theorem symL_code {lens:List Int} (hok:CodesOk lens) {x:Int×Int×Int} (hx:x∈codes lens) (r:List Int):symL (codes lens) (mxl (codes lens)).toNat 0 0 (toBits x.2.1 x.2.2.toNat++r)=some (x.1,r):=by
 obtain ⟨i,hi,e1,e2⟩:=codes_mem hx
 have hp:=used_pos hi
 have hm:x.2.2≤mxl (codes lens):=(mxl_ge (codes lens) 0).2 x hx
 have hb:=hok.bd x hx
 have:=symL_go hok hx r x.2.2.toNat (mxl (codes lens)).toNat 0 (by exact far [_] [_] (.d X0 Y0) [.f X0 Y0] [1,1] (fm (it2 (far [] [_,_] (.d (.z 0) Y0) [.f Y0 Y1,.e (.z 0) Y1] [1,-1,1] (fm e2 (fm hp fz)) rfl)) fz) rfl) (by lia) (by exact far [_] [_,_] (.a (.n 1) Z0) [.f Y0 Y1,.e (.z 0) Y1,.d Y0 X0] [1,-1,1,1] (fm e2 (fm hp (fm (it1 _) fz))) rfl) (by exact far [_,_] [_,_] (.a Z0 Z1) [.d Y0 Y1,.d Y1 X1,.f X0 Y0] [1,1,1,1] (fm hm (fm (it1 _) (fm (it2 (far [] [_,_] (.d (.z 0) Y0) [.f Y0 Y1,.e (.z 0) Y1] [1,-1,1] (fm e2 (fm hp fz)) rfl)) fz))) rfl) (by rw [Int.ediv_eq_zero_of_lt hb.1 hb.2])
 rwa [show x.2.2-(x.2.2.toNat:Int)=0 by exact Int.le_antisymm (far [_] [_] (.d (.s Y0 X0) (.z 0)) [.d Y0 X0] [1,1] (fm (it1 _) fz) rfl) (far [_] [_] (.d (.z 0) (.s Y0 X0)) [.f X0 Y0] [1,1] (fm (it2 (far [] [_,_] (.d (.z 0) Y0) [.f Y0 Y1,.e (.z 0) Y1] [1,-1,1] (fm e2 (fm hp fz)) rfl)) fz) rfl)] at this
theorem symL_codB {lens:List Int} (hok:CodesOk lens) {i:Nat} (hi:i∈used lens) (r:List Int):symL (codes lens) (mxl (codes lens)).toNat 0 0 (codB (codes lens) i++r)=some ((i:Int),r):=by
 obtain ⟨x,hx,e1,e2⟩:=codes_has hi
 unfold codB
 rw [← e1,look_mem (codes_syms_nodup lens) hx,symL_code hok hx]
theorem codB_pos {lens:List Int} {i:Nat} (hi:i∈used lens):1≤(codB (codes lens) i).length∧((codB (codes lens) i).length:Int)=lens.getD i 0:=by
 obtain ⟨x,hx,e1,e2⟩:=codes_has hi
 have hp:=used_pos hi
 unfold codB
 rw [toBits_len,← e1,look_mem (codes_syms_nodup lens) hx,e2]
 lia
theorem bits_lt {v:Int} (h:1≤v):(2:Int) ^ (Builtin.Int.intBits v-1)≤v∧v<2 ^ Builtin.Int.intBits v:=by
 have hv:v.natAbs≠0:=by omega
 have e:Builtin.Int.intBits v=v.natAbs.log2+1:=by
  unfold Builtin.Int.intBits
  rw [if_neg (by simp; lia)]
 rw [e]
 have h1:=Nat.log2_self_le hv
 have h2:=@Nat.lt_log2_self v.natAbs
 have e2:((v.natAbs:Nat):Int)=v:=by lia
 refine ⟨?_,?_⟩
 ·rw [show v.natAbs.log2+1-1=v.natAbs.log2 by rfl,← e2]
  exact_mod_cast h1
 ·rw [← e2]
  exact_mod_cast h2
theorem tail_back {v:Int} (h:1≤v) (r:List Int):∃ u,rdB (tailB v++r) (Builtin.Int.intBits v-1) 0=some (u,r)∧2 ^ (Builtin.Int.intBits v-1)+u=v:=by
 have hb:=bits_lt h
 have hp:=bits_pos h
 refine ⟨v-2 ^ (Builtin.Int.intBits v-1),?_,by exact Int.le_antisymm (far [] [_,_] (.d (.q Y0 (.s Y1 Y0)) Y1) [] [1] fz rfl) (far [] [_,_] (.d Y0 (.q Y1 (.s Y0 Y1))) [] [1] fz rfl)⟩
 unfold tailB
 rw [rdB_to]
 congr 2
 rw [Int.zero_mul,Int.zero_add]
 have e:(2:Int) ^ Builtin.Int.intBits v=2*2 ^ (Builtin.Int.intBits v-1):=by
  rw [show Builtin.Int.intBits v=(Builtin.Int.intBits v-1)+1 by exact Nat.le_antisymm (far [_,_] [] (.a Z0 (.p Z1 (.n 1))) [.a Z0 (.p Z1 (.n 1))] [1,1] (fm (ns1 _ _) fz) rfl) (far [_,_] [] (.a (.p Z0 (.n 1)) Z1) [.c (.p Z0 (.n 1)) Z1] [1,1] (fm (ns2 (far [_] [] (.a (.n 1) Z0) [.a (.n 1) Z0] [1,1] (fm hp fz) rfl)) fz) rfl),Int.pow_succ,Int.mul_comm]
  rfl
 rw [e] at hb
 rw [← Int.emod_eq_of_lt (a:=v-2 ^ (Builtin.Int.intBits v-1)) (b:=2 ^ (Builtin.Int.intBits v-1)) (by exact far [] [_,_] (.d (.z 0) (.s Y0 Y1)) [.d Y1 Y0] [1,1] (fm hb.1 fz) rfl) (by exact far [] [_,_] (.e (.s Y0 Y1) Y1) [.e Y0 (.o 2 Y1)] [1,1] (fm hb.2 fz) rfl)]
 rw [Int.sub_emod_right]
end Mine
namespace Mine
open PySem
theorem numL_leb {k:Int} (h0:0≤k) (h1:k≤8000) (r:List Int):numL (leb k++r) 0 1=some (k,r):=by
 unfold leb
 by_cases h:2*k>127
 ·rw [if_pos h]
  show numL ((128+2*k % 128)::(2*k / 128)::r) 0 1=_
  unfold numL
  rw [if_pos (by exact far [] [_] (.e (.z 127) (.q (.z 128) Y0)) [.d (.z 0) Y0] [1,1] (fm (im1 _ _ rfl) fz) rfl)]
  unfold numL
  rw [if_neg (by lia),if_neg (by lia),if_neg (by lia)]
  congr 2
  lia
 ·rw [if_neg h]
  show numL ((2*k)::r) 0 1=_
  unfold numL
  rw [if_neg (by omega),if_neg (by lia),if_neg (by lia)]
  congr 2
  exact Int.le_antisymm (far [] [_,_,_] (.d Y0 Y1) [.f (.q (.o 2 Y0) Y2) (.q (.z 0) (.u (.o 2 Y1) 1)),.d (.z 0) Y2] [2,1,1] (fm (im3 _ _) (fm (im1 _ _ rfl) fz)) rfl) (far [] [_,_,_] (.d Y0 Y1) [.f (.q (.o 2 Y1) Y2) (.q (.z 0) (.u (.o 2 Y0) 1)),.e Y2 (.z 2)] [2,-1,1] (fm (im3 _ _) (fm (im2 _ _ rfl) fz)) rfl)
noncomputable def setLs (lens:List Int) (l:List Nat) (acc:List Int):List Int:=l.foldl (fun acc s=>acc.set s (lens.getD s 0)) acc
theorem setL_len (lens:List Int):∀ (l:List Nat) (acc:List Int),(setLs lens l acc).length=acc.length
 | [],_=>rfl
 | s::l,acc=>by show (setLs lens l (acc.set s (lens.getD s 0))).length=_; rw [setL_len lens l,List.length_set]
theorem setL_get (lens:List Int):∀ (l:List Nat) (acc:List Int) (i:Nat),(∀ s∈l,s<acc.length)→(setLs lens l acc).getD i 0=if i∈l then lens.getD i 0 else acc.getD i 0
 | [],acc,i,_=>by simp [setLs]
 | s::l,acc,i,h=>by
  show (setLs lens l (acc.set s (lens.getD s 0))).getD i 0=_
  rw [setL_get lens l _ i (fun x hx=>by rw [List.length_set]; exact h x (.tail _ hx)),getD_set (h s (.head _))]
  by_cases h1:i∈l
  ·rw [if_pos h1,if_pos (.tail _ h1)]
  ·rw [if_neg h1]
   by_cases h2:i=s
   ·rw [if_pos h2,if_pos (by rw [h2]; exact .head _),h2]
   ·rw [if_neg h2,if_neg (by simp [h1,h2])]
theorem wrGo_ge (lens:List Int):∀ (l:List Nat) (b:Int),2*l.length≤(wrGo lens b l).length
 | [],_=>Nat.zero_le _
 | s::r,b=>by
  have h1:=leb_len (s-b)
  have h2:=leb_len (lens.getD s 0)
  have:=wrGo_ge lens r s
  unfold wrGo
  rw [List.length_append,List.length_append,List.length_cons]
  exact far [_,_,_,_] [] (.a (.m 2 (.p Z0 (.n 1))) (.p Z1 (.p Z2 Z3))) [.a (.n 1) Z1,.a (.n 1) Z2,.a (.m 2 Z0) Z3] [1,1,1,1] (fm h1.1 (fm h2.1 (fm this fz))) rfl
theorem rdLenGo_back {lens:List Int} {m:Nat} (hm:m≤900) (hl:∀ i,lens.getD i 0≤64) (r:List Int):∀ (l:List Nat) (acc:List Int) (b:Int),l.Pairwise (·<·)→(∀ s∈l,b<s∧s<m∧1≤lens.getD s 0)→-1≤b→
  rdLenGo m l.length acc b (wrGo lens b l++r)=some (setLs lens l acc,r)
 | [],acc,b,_,_,_=>rfl
 | s::l,acc,b,hp,h,hb=>by
  have hp':=List.pairwise_cons.mp hp
  have hs:=h s (.head _)
  have h64:=hl s
  unfold wrGo
  rw [List.length_cons,List.append_assoc,List.append_assoc]
  unfold rdLenGo
  rw [numL_leb (by exact far [_] [_] (.d (.z 0) (.s X0 Y0)) [.e Y0 X0] [1,1] (fm hs.1 fz) rfl) (by exact far [_,_] [_] (.d (.s X0 Y0) (.z 8000)) [.a Z1 (.n 900),.d (.z (-1)) Y0,.b Z0 Z1] [1,1,1,1] (fm hm (fm hb (fm hs.2.1 fz))) rfl)]
  dsimp only
  rw [numL_leb (by exact far [] [_] (.d (.z 0) Y0) [.d (.z 1) Y0] [1,1] (fm hs.2.2 fz) rfl) (by exact far [] [_] (.d Y0 (.z 8000)) [.d Y0 (.z 64)] [1,1] (fm h64 fz) rfl)]
  dsimp only
  rw [if_neg (by lia)]
  have e:b+((s:Nat)-b)=(s:Nat):=by lia
  rw [e,Int.toNat_natCast]
  exact rdLenGo_back hm hl r l _ s hp'.2 (fun x hx=>⟨by have:=hp'.1 x hx; exact Int.ofNat_lt.mpr ‹_›,(h x (.tail _ hx)).2⟩) (by exact Int.natCast_nonneg _)
theorem rdLen_back {lens:List Int} {m:Nat} (hm:m≤900) (hlen:lens.length=m) (hl:∀ i,0≤lens.getD i 0∧lens.getD i 0≤64) (r:List Int):rdLen m (wrLen lens++r)=some (lens,r):=by
 have hu:(used lens).length≤m:=by rw [← hlen]; exact used_len lens
 unfold rdLen wrLen
 rw [List.append_assoc,numL_leb (by exact Int.natCast_nonneg _) (by exact far [_,_] [] (.d X0 (.z 8000)) [.a Z1 (.n 900),.a Z0 Z1] [1,1,1] (fm hm (fm hu fz)) rfl)]
 dsimp only
 have:=wrGo_ge lens (used lens) (-1)
 rw [if_neg (by rw [List.length_append]; lia),Int.toNat_natCast,rdLenGo_back hm (fun i=>(hl i).2) r (used lens) _ (-1) (List.pairwise_lt_range.filter _) (fun s hs=>⟨by exact Int.natCast_nonneg _,by rw [← hlen]; exact used_lt hs,by have:=used_pos hs; assumption⟩) (Int.le_refl _)]
 congr 2
 refine List.ext_getElem? fun i=>?_
 have e1:((setLs lens (used lens) (List.replicate m 0)).length)=lens.length:=by rw [setL_len,List.length_replicate,hlen]
 have e2:=setL_get lens (used lens) (List.replicate m 0) i (fun s hs=>by rw [List.length_replicate,← hlen]; exact used_lt hs)
 by_cases hi:i<lens.length
 ·have hv:(setLs lens (used lens) (List.replicate m 0)).getD i 0=lens.getD i 0:=by
   rw [e2]
   split
   ·rfl
   ·rename_i h
    rw [getD_replicate0]
    have:=hl i
    rcases Int.lt_or_eq_of_le this.1 with q | q
    ·exact absurd (List.mem_filter.mpr ⟨List.mem_range.mpr hi,by simpa using q⟩) h
    ·exact q
  rw [List.getD_eq_getElem?_getD,List.getD_eq_getElem?_getD,List.getElem?_eq_getElem hi,List.getElem?_eq_getElem (by exact far [_,_,_] [] (.b Z0 Z1) [.c Z1 Z2,.b Z0 Z2] [1,-1,1] (fm e1 (fm hi fz)) rfl)] at hv
  rw [List.getElem?_eq_getElem hi,List.getElem?_eq_getElem (by exact far [_,_,_] [] (.b Z0 Z1) [.c Z1 Z2,.b Z0 Z2] [1,-1,1] (fm e1 (fm hi fz)) rfl)]
  exact congrArg some hv
 ·rw [List.getElem?_eq_none (by exact far [_,_,_] [] (.a Z0 Z1) [.c Z0 Z2,.g (.b Z1 Z2)] [1,1,1] (fm e1 (fm hi fz)) rfl),List.getElem?_eq_none (by exact far [_,_] [] (.a Z0 Z1) [.g (.b Z1 Z0)] [1,1] (fm hi fz) rfl)]
theorem toBits_snoc (h:Int) {b:Int} (hb:b=0∨b=1):∀ n:Nat,toBits (h*2+b) (n+1)=toBits h n++[b]
 | 0=>by
  show [(h*2+b) / 2 ^ 0 % 2]=[b]
  congr 1
  simp
  lia
 | n+1=>by
  rw [toBits_succ,toBits_snoc h hb n,toBits_succ h n,List.cons_append]
  congr 1
  rw [Int.pow_succ,Int.mul_comm (2 ^ n) 2,← Int.ediv_ediv_of_nonneg (show (0:Int)≤2 by decide)]
  congr 2
  lia
theorem bitsL_snoc (out:List Int) (v:Int):bitsL (out++[v])=bitsL out++toBits v 8:=by
 unfold bitsL
 rw [List.length_append,List.length_singleton,Nat.mul_add,Nat.mul_one,List.range_add,List.map_append,List.map_map]
 congr 1
 ·refine List.map_congr_left fun p hp=>?_
  have hp:=List.mem_range.mp hp
  unfold bitAt
  rw [List.getD_eq_getElem?_getD,List.getElem?_append_left (by exact far [_,_,_] [] (.b Z0 Z1) [.b Z2 (.m 8 Z1),.a (.r Z0 8) Z2] [8,1,1] (fm hp (fm (nd1 _ _) fz)) rfl),List.getD_eq_getElem?_getD]
 ·unfold toBits
  refine List.map_congr_left fun i hi=>?_
  have hi:=List.mem_range.mp hi
  show bitAt (out++[v]) (8*out.length+i)=_
  unfold bitAt
  rw [show (8*out.length+i) / 8=out.length by exact Nat.le_antisymm (far [_,_,_] [] (.a Z0 Z1) [.b Z2 (.n 8),.a (.r Z0 8) (.p (.m 8 Z1) Z2)] [8,1,1] (fm hi (fm (nd1 _ _) fz)) rfl) (far [_,_,_] [] (.a Z0 Z1) [.b (.p (.m 8 Z0) Z2) (.p (.r Z1 8) (.n 8))] [8,1] (fm (nd2 _ _ rfl) fz) rfl),show (8*out.length+i) % 8=i by lia,List.getD_eq_getElem?_getD,List.getElem?_append_right (Nat.le_refl _),Nat.sub_self]
  rfl
structure PkOk (x:List Int×Int×Int):Prop where
 h0:0≤x.2.1
 h1:x.2.1<2 ^ x.2.2.toNat
 c0:0≤x.2.2
 c1:x.2.2<8
 by_:∀ v∈x.1,0≤v∧v<256
theorem pk_step {x:List Int×Int×Int} {b:Int} (hx:PkOk x) (hb:b=0∨b=1):PkOk (bpush x b)∧bitsL (bpush x b).1++toBits (bpush x b).2.1 (bpush x b).2.2.toNat=(bitsL x.1++toBits x.2.1 x.2.2.toNat)++[b]:=by
 obtain ⟨out,h,c⟩:=x
 obtain ⟨h0,h1,c0,c1,by_⟩:=hx
 dsimp only at *
 have e2:(2:Int) ^ (c.toNat+1)=2*2 ^ c.toNat:=by rw [Int.pow_succ,Int.mul_comm]
 have eb:=toBits_snoc h hb c.toNat
 unfold bpush
 dsimp only
 by_cases hc:c+1=8
 ·rw [if_pos hc]
  have hc7:c=7:=by lia
  subst hc7
  have h1:h<128:=h1
  refine ⟨⟨Int.le_refl _,by simp,Int.le_refl _,by show (0:Int)<8; decide,fun v hv=>?_⟩,?_⟩
  ·rcases List.mem_append.mp hv with hv | hv
   ·exact by_ v hv
   ·rw [List.mem_singleton.mp hv]; lia
  ·show bitsL (out++[h*2+b])++toBits 0 0=_
   rw [bitsL_snoc,List.append_assoc (bitsL out) (toBits h _),← eb]
   show _++[]=_
   rw [List.append_nil]
   rfl
 ·rw [if_neg hc]
  have ec:(c+1).toNat=c.toNat+1:=by lia
  refine ⟨⟨by dsimp only; lia,by dsimp only; rw [ec,e2]; lia,by dsimp only; exact far [] [_] (.d (.z 0) (.q Y0 (.z 1))) [.d (.z 0) Y0] [1,1] (fm c0 fz) rfl,by dsimp only; lia,by_⟩,?_⟩
  dsimp only
  rw [ec,eb,List.append_assoc]
theorem pk_all:∀ (bs:List Int) (x:List Int×Int×Int),PkOk x→(∀ b∈bs,b=0∨b=1)→PkOk (bs.foldl bpush x)∧bitsL (bs.foldl bpush x).1++toBits (bs.foldl bpush x).2.1 (bs.foldl bpush x).2.2.toNat=(bitsL x.1++toBits x.2.1 x.2.2.toNat)++bs
 | [],x,hx,_=>⟨hx,by simp⟩
 | b::bs,x,hx,hb=>by
  obtain ⟨h1,h2⟩:=pk_step hx (hb b (.head _))
  obtain ⟨h3,h4⟩:=pk_all bs _ h1 fun y hy=>hb y (.tail _ hy)
  refine ⟨h3,?_⟩
  show bitsL (bs.foldl bpush (bpush x b)).1++_=_
  rw [List.foldl_cons,h4,h2,List.append_assoc,List.singleton_append]
theorem bst_ok {bs:List Int} (hb:∀ b∈bs,b=0∨b=1):PkOk (bst bs)∧bitsL (bst bs).1++toBits (bst bs).2.1 (bst bs).2.2.toNat=bs:=
 pk_all bs ([],0,0) ⟨Int.le_refl _,by simp,Int.le_refl _,by decide,fun _ h=>nomatch h⟩ hb
theorem padB_01 {bs:List Int} (hb:∀ b∈bs,b=0∨b=1):∀ b∈padB bs,b=0∨b=1:=fun b h=>by
 rcases List.mem_append.mp h with h | h
 ·exact hb b h
 ·exact .inl (List.eq_of_mem_replicate h)
theorem padB_len (bs:List Int):(padB bs).length % 8=0∧(padB bs).length≤bs.length+7:=by
 unfold padB padN
 rw [List.length_append,List.length_replicate]
 lia
theorem pack_back {bs:List Int} (hb:∀ b∈bs,b=0∨b=1):bitsL (bst (padB bs)).1=padB bs∧(∀ v∈(bst (padB bs)).1,0≤v∧v<256):=by
 obtain ⟨h1,h2⟩:=bst_ok (padB_01 hb)
 have hc:=bst_cnt (padB bs)
 have hz:(bst (padB bs)).2.2.toNat=0:=by rw [hc,(padB_len bs).1]; rfl
 refine ⟨?_,h1.by_⟩
 rw [hz] at h2
 have h2:bitsL (bst (padB bs)).1++[]=padB bs:=h2
 rwa [List.append_nil] at h2
end Mine
namespace Mine
open PySem
noncomputable def Alp (ns:List Int):Prop:=∀ x∈ns,x=7∨x=255∨x=0∨x=8
noncomputable def TkP (p:Int×Int):Prop:=(p.2=0∧(p.1=7∨p.1=255∨p.1=0∨p.1=8))∨(1≤p.2∧p.2≤20∧3≤p.1∧p.1≤56)
theorem getD_alp {ns:List Int} (h:Alp ns) {a:Nat} (ha:a<ns.length):ns.getD a 0=7∨ns.getD a 0=255∨ns.getD a 0=0∨ns.getD a 0=8:=h _ (by
 rw [List.getD_eq_getElem?_getD,List.getElem?_eq_getElem ha]; exact List.getElem_mem ha)
theorem wm_le (ns:List Int) (a:Nat):wm ns a≤ns.length-a:=by unfold wm; exact far [_,_] [] (.a Z0 Z1) [.a Z0 Z1] [1,1] (fm (Nat.min_le_right _ _) fz) rfl
theorem fits_tk {ns:List Int} {w:Int} (hal:Alp ns) (hl:ns.length≤56) (hw:w≤20):∀ (ts:List (Int×Int)) (a:Nat),Fits ns w a ts→(∀ p∈ts,TkP p)∧ts.length+a≤ns.length
 | [],a,h=>by
  have h:a=ns.length:=h
  exact ⟨fun _ h=>(nomatch h),by simp; exact far [_,_] [] (.a Z0 Z1) [.c Z0 Z1] [1,1] (fm h fz) rfl⟩
 | p::ts,a,h=>by
  obtain ⟨ha,h⟩:=h
  rcases h with ⟨h1,h2,h3,h4⟩ | ⟨q,q1,q2,q3,q4,q5,q6,q7⟩
  ·obtain ⟨i1,i2⟩:=fits_tk hal hl hw ts (a+1) h4
   refine ⟨fun x hx=>?_,by rw [List.length_cons]; exact far [_,_,_] [] (.a (.p (.p Z0 (.n 1)) Z1) Z2) [.a (.p Z0 (.p Z1 (.n 1))) Z2] [1,1] (fm i2 fz) rfl⟩
   rcases List.mem_cons.mp hx with rfl | hx
   ·refine .inl ⟨h1,?_⟩
    rw [h3]; exact getD_alp hal ha
   ·exact i1 x hx
  ·obtain ⟨i1,i2⟩:=fits_tk hal hl hw ts _ q7
   have:=run_le ns q a (wm ns a)
   have:=wm_le ns a
   refine ⟨fun x hx=>?_,by rw [List.length_cons]; exact far [_,_,_,_] [] (.a (.p (.p Z0 (.n 1)) Z1) Z2) [.a (.n 3) Z3,.a (.p Z0 (.p Z1 Z3)) Z2] [1,1,1] (fm q3 (fm i2 fz)) rfl⟩
   rcases List.mem_cons.mp hx with rfl | hx
   ·exact .inr ⟨by exact far [_,_,_] [_] (.d (.z 1) Y0) [.b Z0 Z1,.f Y0 X2,.a Z1 (.p Z2 Z0)] [1,1,-1,1] (fm q2 (fm q6 (fm (ns1 _ _) fz))) rfl,by exact far [_,_,_] [_,_] (.d Y0 (.z 20)) [.d Y1 (.z 20),.d (.s X0 Y1) X1,.f Y0 X2,.c (.p Z2 Z1) Z0] [1,1,1,1,1] (fm hw (fm q1 (fm q6 (fm (ns2 (far [_,_] [] (.a Z0 Z1) [.b Z0 Z1] [1,1] (fm q2 fz) rfl)) fz)))) rfl,by exact far [_] [_] (.d (.z 3) Y0) [.a (.n 3) Z0,.f Y0 X0] [1,1,-1] (fm q3 (fm q5 fz)) rfl,by exact far [_,_,_,_,_] [_] (.d Y0 (.z 56)) [.a Z0 (.n 56),.b Z1 Z2,.a (.p Z3 (.p Z2 Z4)) Z0,.f Y0 X4] [1,1,1,1,1] (fm hl (fm q2 (fm i2 (fm q5 fz)))) rfl⟩
   ·exact i1 x hx
theorem bits_bd {v:Int} {n:Nat} (h:1≤v) (h2:v<2 ^ n):Builtin.Int.intBits v≤n:=by
 have hb:=bits_lt h
 have hp:=bits_pos h
 rcases Nat.lt_or_ge n (Builtin.Int.intBits v) with q | q
 ·exfalso
  have e:(2:Int) ^ (Builtin.Int.intBits v-1)=2 ^ n*2 ^ (Builtin.Int.intBits v-1-n):=by rw [← Int.pow_add]; congr 1; exact Nat.le_antisymm (far [_,_,_] [] (.a Z0 (.p Z1 Z2)) [.a Z0 (.p Z2 Z1)] [1,1] (fm (ns1 _ _) fz) rfl) (far [_,_,_] [] (.a (.p Z0 Z1) Z2) [.c (.p Z1 Z0) Z2] [1,1] (fm (ns2 (far [_,_,_] [] (.a Z0 Z1) [.b Z0 Z2,.a Z2 (.p Z1 (.n 1))] [1,1,1] (fm q (fm (ns1 _ _) fz)) rfl)) fz) rfl)
  have:=pow_pos2 (Builtin.Int.intBits v-1-n)
  have h3:=pow_pos2 n
  have:(2:Int) ^ n*1≤2 ^ n*2 ^ (Builtin.Int.intBits v-1-n):=Int.mul_le_mul_of_nonneg_left (by assumption) (by exact Int.natCast_nonneg _)
  lia
 ·exact q
theorem tk_bits {p:Int×Int} (h:TkP p) (hc:0<p.2):1≤Builtin.Int.intBits (p.1-3+1)∧Builtin.Int.intBits (p.1-3+1)≤6∧1≤Builtin.Int.intBits p.2∧Builtin.Int.intBits p.2≤5:=by
 rcases h with ⟨h1,_⟩ | ⟨h1,h2,h3,h4⟩
 ·lia
 ·exact ⟨bits_pos (by exact far [] [_] (.d (.z 1) (.q (.s Y0 (.z 3)) (.z 1))) [.d (.z 3) Y0] [1,1] (fm h3 fz) rfl),bits_bd (by exact far [] [_] (.d (.z 1) (.q (.s Y0 (.z 3)) (.z 1))) [.d (.z 3) Y0] [1,1] (fm h3 fz) rfl) (by show _<(64:Int); exact far [] [_] (.e (.q (.s Y0 (.z 3)) (.z 1)) (.z 64)) [.d Y0 (.z 56)] [1,1] (fm h4 fz) rfl),bits_pos h1,bits_bd h1 (by show _<(32:Int); exact far [] [_] (.e Y0 (.z 32)) [.d Y0 (.z 20)] [1,1] (fm h2 fz) rfl)⟩
theorem tk_sym {p:Int×Int} (h:TkP p):mainSym p=7∨mainSym p=255∨mainSym p=0∨mainSym p=8∨(257≤mainSym p∧mainSym p≤262):=by
 by_cases hc:p.2=0
 ·rcases h with ⟨h1,h2⟩ | h
  ·have:mainSym p=p.1:=if_pos h1
   lia
  ·omega
 ·have hp:0<p.2:=by rcases h with ⟨h1,_⟩ | ⟨h1,_⟩ <;> lia
  have hb:=tk_bits h hp
  have:mainSym p=256+(Builtin.Int.intBits (p.1-3+1):Nat):=if_neg hc
  omega
theorem tk_ok {p:Int×Int} (h:TkP p):TokOk2 p:=by
 have hs:=tk_sym h
 refine ⟨⟨by lia,by lia,?_,?_⟩,fun hc=>?_⟩
 ·rcases h with ⟨h1,_⟩ | ⟨h1,_⟩ <;> lia
 ·rcases h with ⟨h1,_⟩ | ⟨h1,h2⟩
  ·rw [h1]; decide
  ·have:=tk_bits (.inr ⟨h1,h2⟩) (by assumption:0<p.2); exact nD this.2.2.2 rfl
 ·rcases h with ⟨h1,_⟩ | ⟨_,_,h1,_⟩ <;> omega
theorem cntM_new:∀ (ts:List (Int×Int)) (l:List Int) (i:Nat),l.length=265→(∀ p∈ts,TokOk2 p)→(cntM ts l).getD i 0≠l.getD i 0→∃ p∈ts,(mainSym p).toNat=i
 | [],_,_,_,_,h=>absurd rfl h
 | p::ts,l,i,hl,hok,h=>by
  have ok:=hok p (.head _)
  have o1:=ok.lo
  have o2:=ok.hi
  have h:(cntM ts (bumpI l (mainSym p).toNat)).getD i 0≠l.getD i 0:=h
  by_cases e:(mainSym p).toNat=i
  ·exact ⟨p,.head _,e⟩
  ·obtain ⟨q,hq,e2⟩:=cntM_new ts (bumpI l (mainSym p).toNat) i (by rw [bumpI_len,hl]) (fun q hq=>hok q (.tail _ hq)) (by rw [getD_bumpI (by exact far [_,_] [_] (.b Z0 Z1) [.c Z1 (.n 265),.e Y0 (.z 265),.f X0 Y0] [1,-1,1,1] (fm hl (fm o2 (fm (it2 (far [] [_] (.d (.z 0) Y0) [.d (.z 0) Y0] [1,1] (fm o1 fz) rfl)) fz))) rfl),if_neg fun x=>e x.symm]; exact h)
   exact ⟨q,.tail _ hq,e2⟩
theorem cntD_new:∀ (ts:List (Int×Int)) (l:List Int) (i:Nat),l.length=25→(∀ p∈ts,TokOk2 p)→(cntD ts l).getD i 0≠l.getD i 0→∃ p∈ts,0<p.2∧Builtin.Int.intBits p.2=i
 | [],_,_,_,_,h=>absurd rfl h
 | p::ts,l,i,hl,hok,h=>by
  have ok:=hok p (.head _)
  have o1:=ok.dd
  have h:(cntD ts (if 0<p.2 then bumpI l (Builtin.Int.intBits p.2) else l)).getD i 0≠l.getD i 0:=h
  by_cases hc:0<p.2
  ·rw [if_pos hc] at h
   by_cases e:Builtin.Int.intBits p.2=i
   ·exact ⟨p,.head _,hc,e⟩
   ·obtain ⟨q,hq,e2⟩:=cntD_new ts (bumpI l (Builtin.Int.intBits p.2)) i (by rw [bumpI_len,hl]) (fun q hq=>hok q (.tail _ hq)) (by rw [getD_bumpI (by exact far [_,_] [] (.b Z0 Z1) [.c Z1 (.n 25),.b Z0 (.n 25)] [1,-1,1] (fm hl (fm o1 fz)) rfl),if_neg fun x=>e x.symm]; exact h)
    exact ⟨q,.tail _ hq,e2⟩
  ·rw [if_neg hc] at h
   obtain ⟨q,hq,e2⟩:=cntD_new ts l i hl (fun q hq=>hok q (.tail _ hq)) h
   exact ⟨q,.tail _ hq,e2⟩
theorem used_M {ns:List Int} {w:Int} (h:∀ p∈toks ns w,TkP p):(used (cntMs ns w)).length≤11∧256∈used (cntMs ns w)∧∀ p∈toks ns w,(mainSym p).toNat∈used (cntMs ns w):=by
 have hok:∀ p∈toks ns w,TokOk2 p:=fun p hp=>tk_ok (h p hp)
 have hl:(cntMs ns w).length=265:=by unfold cntMs; rw [bumpI_len,cntM_len,List.length_replicate]
 have hg:∀ i,(cntMs ns w).getD i 0=if i=256 then (cntM (toks ns w) (List.replicate 265 0)).getD 256 0+1 else (cntM (toks ns w) (List.replicate 265 0)).getD i 0:=fun i=>by
  unfold cntMs
  rw [getD_bumpI (by rw [cntM_len,List.length_replicate]; decide)]
 have h256:=cntM_ge (toks ns w) (List.replicate 265 0) 256 List.length_replicate hok
 rw [getD_replicate0] at h256
 refine ⟨nodup_le (used (cntMs ns w)) [7,255,0,8,256,257,258,259,260,261,262] (used_nodup _) fun i hi=>?_,?_,fun p hp=>?_⟩
 ·have h1:=used_pos hi
  have h2:=used_lt hi
  rw [hg] at h1
  by_cases e:i=256
  ·rw [e]; simp
  ·rw [if_neg e] at h1
   obtain ⟨p,hp,e2⟩:=cntM_new (toks ns w) (List.replicate 265 0) i List.length_replicate hok (by rw [getD_replicate0]; lia)
   have:=tk_sym (h p hp)
   have:i=7∨i=255∨i=0∨i=8∨i=257∨i=258∨i=259∨i=260∨i=261∨i=262:=by lia
   rcases this with rfl | rfl | rfl | rfl | rfl | rfl | rfl | rfl | rfl | rfl <;> simp
 ·refine List.mem_filter.mpr ⟨List.mem_range.mpr (by exact far [_] [] (.b (.n 256) Z0) [.c Z0 (.n 265)] [1,-1] (fm hl fz) rfl),?_⟩
  rw [hg,if_pos rfl]
  exact decide_eq_true (by exact far [] [_] (.e (.z 0) (.q Y0 (.z 1))) [.d (.z 0) Y0] [1,1] (fm h256 fz) rfl:0<(cntM (toks ns w) (List.replicate 265 0)).getD 256 0+1)
 ·have hs:=tk_sym (h p hp)
  refine List.mem_filter.mpr ⟨List.mem_range.mpr (by lia),?_⟩
  have h1:=cntM_pos (toks ns w) (List.replicate 265 0) List.length_replicate (fun i=>by rw [getD_replicate0]; exact Int.le_refl _) hok p hp
  rw [hg,if_neg (by lia)]
  exact decide_eq_true h1
theorem used_D {ns:List Int} {w:Int} (h:∀ p∈toks ns w,TkP p):(used (cntDs ns w)).length≤5∧∀ p∈toks ns w,0<p.2→Builtin.Int.intBits p.2∈used (cntDs ns w):=by
 have hok:∀ p∈toks ns w,TokOk2 p:=fun p hp=>tk_ok (h p hp)
 have hl:(cntDs ns w).length=25:=by unfold cntDs; rw [cntD_len,List.length_replicate]
 refine ⟨nodup_le (used (cntDs ns w)) [1,2,3,4,5] (used_nodup _) fun i hi=>?_,fun p hp hc=>?_⟩
 ·have h1:=used_pos hi
  obtain ⟨p,hp,hc,e2⟩:=cntD_new (toks ns w) (List.replicate 25 0) i List.length_replicate hok (by rw [getD_replicate0]; unfold cntDs at h1; lia)
  have:=tk_bits (h p hp) hc
  have:i=1∨i=2∨i=3∨i=4∨i=5:=by lia
  rcases this with rfl | rfl | rfl | rfl | rfl <;> simp
 ·have hb:=tk_bits (h p hp) hc
  refine List.mem_filter.mpr ⟨List.mem_range.mpr (by exact far [_,_] [] (.b Z0 Z1) [.c Z1 (.n 25),.a Z0 (.n 5)] [1,-1,1] (fm hl (fm hb.2.2.2 fz)) rfl),?_⟩
  have h1:=cntD_pos (toks ns w) (List.replicate 25 0) List.length_replicate (fun i=>by rw [getD_replicate0]; exact Int.le_refl _) hok p hp hc
  exact decide_eq_true h1
theorem take_snoc {ns:List Int} {a:Nat} (h:a<ns.length):ns.take (a+1)=ns.take a++[ns.getD a 0]:=by
 rw [List.take_add_one,List.getElem?_eq_getElem h,List.getD_eq_getElem?_getD,List.getElem?_eq_getElem h]; rfl
theorem cpy_back {ns:List Int} {d:Nat} (hd:1≤d):∀ (k a:Nat),d≤a→a+k≤ns.length→(∀ j,j<k→ns.getD (a-d+j) 0=ns.getD (a+j) 0)→cpy k (ns.take a) d=ns.take (a+k)
 | 0,a,_,_,_=>rfl
 | k+1,a,h1,h2,h3=>by
  unfold cpy
  have hl:(ns.take a).length=a:=by rw [List.length_take]; lia
  have e:(ns.take a).getD ((ns.take a).length-d) 0=ns.getD a 0:=by
   rw [hl,List.getD_eq_getElem?_getD,List.getElem?_take_of_lt (by exact far [_,_,_] [] (.b Z0 Z1) [.a (.n 1) Z2,.c (.p Z0 Z2) Z1] [1,1,1] (fm hd (fm (ns2 (far [_,_] [] (.a Z0 Z1) [.a Z0 Z1] [1,1] (fm h1 fz) rfl)) fz)) rfl),← List.getD_eq_getElem?_getD]
   exact h3 0 (by lia)
  rw [e,← take_snoc (by exact far [_,_,_] [] (.b Z0 Z1) [.a (.p Z0 (.p Z2 (.n 1))) Z1] [1,1] (fm h2 fz) rfl)]
  rw [cpy_back hd k (a+1) (by exact far [_,_] [] (.a Z0 (.p Z1 (.n 1))) [.a Z0 Z1] [1,1] (fm h1 fz) rfl) (by exact far [_,_,_] [] (.a (.p (.p Z0 (.n 1)) Z1) Z2) [.a (.p Z0 (.p Z1 (.n 1))) Z2] [1,1] (fm h2 fz) rfl) fun j hj=>by
   have:=h3 (j+1) (by exact far [_,_] [] (.b (.p Z0 (.n 1)) (.p Z1 (.n 1))) [.b Z0 Z1] [1,1] (fm hj fz) rfl)
   rw [show a+1-d+j=a-d+(j+1) by exact Nat.le_antisymm (far [_,_,_,_,_] [] (.a (.p Z0 Z1) (.p Z2 (.p Z1 (.n 1)))) [.a Z3 (.p Z2 Z4),.c (.p Z0 Z4) (.p Z3 (.n 1))] [1,1,1] (fm (ns1 _ _) (fm (ns2 (far [_,_] [] (.a Z0 (.p Z1 (.n 1))) [.a Z0 Z1] [1,1] (fm h1 fz) rfl)) fz)) rfl) (far [_,_,_,_,_] [] (.a (.p Z0 (.p Z1 (.n 1))) (.p Z2 Z1)) [.a (.p Z3 (.n 1)) (.p Z2 Z4),.c (.p Z0 Z4) Z3] [1,1,1] (fm (ns1 _ _) (fm (ns2 (far [_,_] [] (.a Z0 Z1) [.a Z0 Z1] [1,1] (fm h1 fz) rfl)) fz)) rfl),show a+1+j=a+(j+1) by lia]
   exact this]
  congr 1; lia
end Mine
namespace Mine
open PySem
noncomputable def dtOf (ld:List Int):Option (List (Int×Int×Int)):=if used ld=[] then none else some (codes ld)
structure Cds (lm ld:List Int) (ts:List (Int×Int)):Prop where
 om:CodesOk lm
 od:CodesOk ld
 e:256∈used lm
 m:∀ p∈ts,(mainSym p).toNat∈used lm
 d:∀ p∈ts,0<p.2→Builtin.Int.intBits p.2∈used ld
theorem tok_stepP {lm ld:List Int} {ts:List (Int×Int)} {p:Int×Int} (h:Cds lm ld (p::ts)) (hp:TkP p) (m:Int) (f:Nat) (r out:List Int):
  unsqGo (codes lm) (dtOf ld) m (f+1) (tokB (codes lm) (codes ld) p++r) out=
   if p.2=0 then (if (out.length:Int)≥m then none else unsqGo (codes lm) (dtOf ld) m f r (out++[p.1]))
   else (if p.2.toNat≤out.length∧(out.length:Int)+p.1≤m then unsqGo (codes lm) (dtOf ld) m f r (cpy p.1.toNat out p.2.toNat) else none):=by
 have hs:=tk_sym hp
 have hm:=h.m p (.head _)
 have es:(((mainSym p).toNat:Nat):Int)=mainSym p:=by lia
 unfold tokB
 rw [List.append_assoc,unsqGo_succ,← es,symL_codB h.om hm]
 dsimp only
 rw [es]
 by_cases hc:p.2=0
 ·have e1:mainSym p=p.1:=if_pos hc
  rw [if_pos hc,if_neg (by lia),List.nil_append]
  have:p.1<256:=by rcases hp with ⟨_,h2⟩ | h2 <;> omega
  unfold unsqStep
  rw [e1,if_neg (by lia),if_pos this]
 ·have hc0:0<p.2:=by rcases hp with ⟨h1,_⟩ | ⟨h1,_⟩ <;> lia
  have hb:=tk_bits hp hc0
  have hd:=h.d p (.head _) hc0
  have e1:mainSym p=256+(Builtin.Int.intBits (p.1-3+1):Nat):=if_neg hc
  have h3:3≤p.1:=by rcases hp with ⟨h1,_⟩ | ⟨_,_,h1,_⟩ <;> omega
  rw [if_neg hc,if_pos hc0]
  unfold unsqStep
  rw [if_neg (by omega),if_neg (by omega)]
  have e2:(mainSym p-256-1).toNat=Builtin.Int.intBits (p.1-3+1)-1:=by exact Nat.le_antisymm (far [_,_,_] [_] (.a Z0 Z1) [.f Y0 (.q (.z 256) X2),.a Z2 (.p Z1 (.n 1)),.f X0 (.s (.s Y0 (.z 256)) (.z 1))] [1,1,1,1] (fm e1 (fm (ns1 _ _) (fm (it2 (far [_] [_] (.d (.z 0) (.s (.s Y0 (.z 256)) (.z 1))) [.f Y0 (.q (.z 256) X0),.a (.n 1) Z0] [1,-1,1] (fm e1 (fm hb.1 fz)) rfl)) fz))) rfl) (far [_,_,_] [_] (.a Z0 Z1) [.f Y0 (.q (.z 256) X2),.d (.s (.s Y0 (.z 256)) (.z 1)) X1,.c (.p Z0 (.n 1)) Z2] [1,-1,1,1] (fm e1 (fm (it1 _) (fm (ns2 (far [_] [] (.a (.n 1) Z0) [.a (.n 1) Z0] [1,1] (fm hb.1 fz) rfl)) fz))) rfl)
  rw [e2,List.append_assoc,List.append_assoc]
  obtain ⟨u1,hu1,hu2⟩:=tail_back (v:=p.1-3+1) (by exact far [] [_] (.d (.z 1) (.q (.s Y0 (.z 3)) (.z 1))) [.d (.z 3) Y0] [1,1] (fm h3 fz) rfl) (codB (codes ld) (Builtin.Int.intBits p.2:Nat)++(tailB p.2++r))
  rw [hu1]
  dsimp only
  have hdt:dtOf ld=some (codes ld):=by
   unfold dtOf
   rw [if_neg]
   intro q
   rw [q] at hd; cases hd
  rw [hdt]
  dsimp only
  rw [symL_codB h.od hd]
  dsimp only
  rw [if_neg (by lia)]
  have e3:(((Builtin.Int.intBits p.2:Nat):Int)-1).toNat=Builtin.Int.intBits p.2-1:=by exact Nat.le_antisymm (far [_,_,_] [] (.a Z0 Z1) [.a Z2 (.p Z1 (.n 1)),.f X0 (.s X2 (.z 1))] [1,1,1] (fm (ns1 _ _) (fm (it2 (far [_] [] (.d (.z 0) (.s X0 (.z 1))) [.a (.n 1) Z0] [1,1] (fm hb.2.2.1 fz) rfl)) fz)) rfl) (far [_,_,_] [] (.a Z0 Z1) [.d (.s X2 (.z 1)) X1,.c (.p Z0 (.n 1)) Z2] [1,1,1] (fm (it1 _) (fm (ns2 (far [_] [] (.a (.n 1) Z0) [.a (.n 1) Z0] [1,1] (fm hb.2.2.1 fz) rfl)) fz)) rfl)
  rw [e3]
  obtain ⟨u2,hu3,hu4⟩:=tail_back (v:=p.2) (by assumption) r
  rw [hu3]
  dsimp only
  have e4:(2 ^ (Builtin.Int.intBits (p.1-3+1)-1)+u1+2:Int)=p.1:=by exact Int.le_antisymm (far [] [_,_,_] (.d (.q (.q Y0 Y1) (.z 2)) Y2) [.f (.q Y0 Y1) (.q (.s Y2 (.z 3)) (.z 1))] [1,1] (fm hu2 fz) rfl) (far [] [_,_,_] (.d Y0 (.q (.q Y1 Y2) (.z 2))) [.f (.q Y1 Y2) (.q (.s Y0 (.z 3)) (.z 1))] [1,-1] (fm hu2 fz) rfl)
  rw [e4,hu4]
  have e5:((p.1.toNat:Nat):Int)=p.1:=by exact Int.le_antisymm (far [_] [_] (.d X0 Y0) [.f X0 Y0] [1,1] (fm (it2 (far [] [_] (.d (.z 0) Y0) [.d (.z 3) Y0] [1,1] (fm h3 fz) rfl)) fz) rfl) (far [_] [_] (.d Y0 X0) [.d Y0 X0] [1,1] (fm (it1 _) fz) rfl)
  rw [e5]
theorem dec_back {ns lm ld:List Int} {w m:Int} (hal:Alp ns) {pad:List Int} (hpad:finC pad=true):∀ (ts:List (Int×Int)) (a f:Nat),Fits ns w a ts→(∀ p∈ts,TkP p)→Cds lm ld ts→(a:Int)≤m→a≤ns.length→ts.length<f→
  unsqGo (codes lm) (dtOf ld) m f (encT (codes lm) (codes ld) ts++pad) (ns.take a)=if (ns.length:Int)≤m then some ns else none
 | [],a,f,hf,ht,h,ham,hal',hfl=>by
  have hf:a=ns.length:=hf
  obtain ⟨f,rfl⟩:∃ f',f=f'+1:=⟨f-1,by simp at hfl; exact Nat.le_antisymm (far [_,_] [] (.a Z0 (.p Z1 (.n 1))) [.a Z0 (.p Z1 (.n 1))] [1,1] (fm (ns1 _ _) fz) rfl) (far [_,_] [] (.a (.p Z0 (.n 1)) Z1) [.c (.p Z0 (.n 1)) Z1] [1,1] (fm (ns2 (far [_] [] (.a (.n 1) Z0) [.b (.n 0) Z0] [1,1] (fm hfl fz) rfl)) fz) rfl)⟩
  subst hf
  show unsqGo (codes lm) (dtOf ld) m (f+1) (codB (codes lm) 256++pad) _=_
  rw [unsqGo_succ]
  have:=symL_codB h.om h.e pad
  have e:((256:Nat):Int)=256:=rfl
  rw [e] at this
  rw [this]
  dsimp only
  unfold unsqStep
  rw [if_pos rfl,if_pos hpad,List.take_length,if_pos ham]
 | p::ts,a,f,hf,ht,h,ham,hal',hfl=>by
  obtain ⟨f,rfl⟩:∃ f',f=f'+1:=⟨f-1,by rw [List.length_cons] at hfl; exact Nat.le_antisymm (far [_,_] [] (.a Z0 (.p Z1 (.n 1))) [.a Z0 (.p Z1 (.n 1))] [1,1] (fm (ns1 _ _) fz) rfl) (far [_,_] [] (.a (.p Z0 (.n 1)) Z1) [.c (.p Z0 (.n 1)) Z1] [1,1] (fm (ns2 (far [_,_] [] (.a (.n 1) Z0) [.b (.p Z1 (.n 1)) Z0] [1,1] (fm hfl fz) rfl)) fz) rfl)⟩
  rw [List.length_cons] at hfl
  have hp:=ht p (.head _)
  have h':Cds lm ld ts:=⟨h.om,h.od,h.e,fun q hq=>h.m q (.tail _ hq),fun q hq=>h.d q (.tail _ hq)⟩
  have ht':∀ q∈ts,TkP q:=fun q hq=>ht q (.tail _ hq)
  show unsqGo (codes lm) (dtOf ld) m (f+1) ((tokB (codes lm) (codes ld) p++encT (codes lm) (codes ld) ts)++pad) _=_
  rw [List.append_assoc,tok_stepP h hp]
  have hlen:(ns.take a).length=a:=by rw [List.length_take]; lia
  rw [hlen]
  obtain ⟨ha,hf⟩:=hf
  rcases hf with ⟨h1,h2,h3,h4⟩ | ⟨q,q1,q2,q3,q4,q5,q6,q7⟩
  ·rw [if_pos h1]
   by_cases hge:(a:Int)≥m
   ·rw [if_pos hge,if_neg (by lia)]
   ·rw [if_neg hge,h3,← take_snoc ha]
    exact dec_back hal hpad ts (a+1) f h4 ht' h' (by exact far [_] [_] (.d (.t (.p Z0 (.n 1))) Y0) [.g (.d Y0 X0)] [1,1] (fm hge fz) rfl) (by assumption) (by exact far [_,_] [] (.b Z0 Z1) [.b (.p Z0 (.n 1)) (.p Z1 (.n 1))] [1,1] (fm hfl fz) rfl)
  ·have hr:=run_le ns q a (wm ns a)
   have hw:=wm_le ns a
   have hrun:∀ j,j<run ns q a (wm ns a)→ns.getD (q+j) 0=ns.getD (a+j) 0:=fun j hj=>run_eq hj
   generalize run ns q a (wm ns a)=L at *
   rw [if_neg (by lia)]
   by_cases hle:(a:Int)+p.1≤m
   ·rw [if_pos ⟨by exact far [_,_,_] [_] (.a Z0 Z1) [.f Y0 X2,.a Z2 Z1,.f X0 Y0] [1,1,1,1] (fm q6 (fm (Nat.sub_le _ _) (fm (it2 (far [_] [_] (.d (.z 0) Y0) [.f Y0 X0] [1,-1] (fm q6 fz) rfl)) fz))) rfl,hle⟩,show p.1.toNat=L by exact Nat.le_antisymm (far [_,_] [_] (.a Z0 Z1) [.f Y0 X1,.f X0 Y0] [1,1,1] (fm q5 (fm (it2 (far [_] [_] (.d (.z 0) Y0) [.a (.n 3) Z0,.f Y0 X0] [1,1,-1] (fm q3 (fm q5 fz)) rfl)) fz)) rfl) (far [_,_] [_] (.a Z0 Z1) [.f Y0 X0,.d Y0 X1] [1,-1,1] (fm q5 (fm (it1 _) fz)) rfl),show p.2.toNat=a-q by exact Nat.le_antisymm (far [_,_] [_] (.a Z0 Z1) [.f Y0 X1,.f X0 Y0] [1,1,1] (fm q6 (fm (it2 (far [_] [_] (.d (.z 0) Y0) [.f Y0 X0] [1,-1] (fm q6 fz) rfl)) fz)) rfl) (far [_,_] [_] (.a Z0 Z1) [.f Y0 X0,.d Y0 X1] [1,-1,1] (fm q6 (fm (it1 _) fz)) rfl),cpy_back (by exact far [_,_,_] [] (.a (.n 1) Z0) [.b Z1 Z2,.a Z2 (.p Z0 Z1)] [1,1,1] (fm q2 (fm (ns1 _ _) fz)) rfl) L a (by exact far [_,_] [] (.a Z0 Z1) [.a Z0 Z1] [1,1] (fm (Nat.sub_le _ _) fz) rfl) (by exact far [_,_,_,_,_] [] (.a (.p Z0 Z1) Z2) [.a Z3 Z4,.a Z1 Z3,.c (.p Z4 Z0) Z2] [1,1,1,1] (fm hw (fm hr (fm (ns2 (far [_,_] [] (.a Z0 Z1) [.b Z0 Z1] [1,1] (fm ha fz) rfl)) fz))) rfl) fun j hj=>by rw [show a-(a-q)+j=q+j by exact Nat.le_antisymm (far [_,_,_,_,_] [] (.a (.p Z0 Z1) (.p Z2 Z1)) [.a Z3 (.p Z4 Z2),.c (.p Z0 Z4) Z3] [1,1,1] (fm (ns1 _ _) (fm (ns2 (far [_,_] [] (.a Z0 Z1) [.a Z0 Z1] [1,1] (fm (Nat.sub_le _ _) fz) rfl)) fz)) rfl) (far [_,_,_,_,_] [] (.a (.p Z0 Z1) (.p Z2 Z1)) [.a Z3 (.p Z2 Z4),.c (.p Z4 Z0) Z3] [1,1,1] (fm (ns1 _ _) (fm (ns2 (far [_,_] [] (.a Z0 Z1) [.b Z0 Z1] [1,1] (fm q2 fz) rfl)) fz)) rfl)]; exact hrun j hj]
    exact dec_back hal hpad ts (a+L) f q7 ht' h' (by exact far [_,_] [_,_] (.d (.t (.p Z0 Z1)) Y0) [.f Y1 X1,.d (.q X0 Y1) Y0] [1,-1,1] (fm q5 (fm hle fz)) rfl) (by exact far [_,_,_,_,_] [] (.a (.p Z0 Z1) Z2) [.a Z3 Z4,.a Z1 Z3,.c (.p Z4 Z0) Z2] [1,1,1,1] (fm hw (fm hr (fm (ns2 (far [_,_] [] (.a Z0 Z1) [.b Z0 Z1] [1,1] (fm ha fz) rfl)) fz))) rfl) (by exact far [_,_] [] (.b Z0 Z1) [.b (.p Z0 (.n 1)) (.p Z1 (.n 1))] [1,1] (fm hfl fz) rfl)
   ·rw [if_neg fun x=>hle x.2,if_neg (by lia)]
theorem codB_le {lens:List Int} {i:Nat} (hi:i∈used lens) {k:Nat} (hl:lens.getD i 0≤k):(codB (codes lens) i).length≤k:=by
 have:=(codB_pos hi).2
 exact far [_,_] [_] (.a Z0 Z1) [.d Y0 X1,.f X0 Y0] [1,1,1] (fm hl (fm this fz)) rfl
theorem enc_size {ns lm ld:List Int} {w:Int} (hlm:∀ i,lm.getD i 0≤10) (hld:∀ i,ld.getD i 0≤10):∀ (ts:List (Int×Int)) (a:Nat),Fits ns w a ts→(∀ p∈ts,TkP p)→Cds lm ld ts→
  (encT (codes lm) (codes ld) ts).length+10*a≤10*ns.length+10∧ts.length+1≤(encT (codes lm) (codes ld) ts).length
 | [],a,hf,ht,h=>by
  have hf:a=ns.length:=hf
  have h1:=codB_le (k:=10) h.e (hlm 256)
  have h2:=(codB_pos h.e).1
  have e:((256:Nat):Int)=256:=rfl
  rw [e] at h1 h2
  show (codB (codes lm) 256).length+_≤_∧_≤(codB (codes lm) 256).length
  simp only [List.length_nil]
  exact ⟨far [_,_,_] [] (.a (.p Z0 (.m 10 Z1)) (.p (.m 10 Z2) (.n 10))) [.c Z1 Z2,.a Z0 (.n 10)] [1,10,1] (fm hf (fm h1 fz)) rfl,far [_] [] (.a (.p (.n 0) (.n 1)) Z0) [.a (.n 1) Z0] [1,1] (fm h2 fz) rfl⟩
 | p::ts,a,hf,ht,h=>by
  have hp:=ht p (.head _)
  have h':Cds lm ld ts:=⟨h.om,h.od,h.e,fun q hq=>h.m q (.tail _ hq),fun q hq=>h.d q (.tail _ hq)⟩
  have ht':∀ q∈ts,TkP q:=fun q hq=>ht q (.tail _ hq)
  have hs:=tk_sym hp
  have hm:=h.m p (.head _)
  have es:(((mainSym p).toNat:Nat):Int)=mainSym p:=by lia
  have c1:=codB_le (k:=10) hm (hlm _)
  have c2:=(codB_pos hm).1
  rw [es] at c1 c2
  have e0:(encT (codes lm) (codes ld) (p::ts)).length=(tokB (codes lm) (codes ld) p).length+(encT (codes lm) (codes ld) ts).length:=List.length_append
  rw [e0,List.length_cons]
  unfold tokB
  rw [List.length_append]
  obtain ⟨ha,hf⟩:=hf
  rcases hf with ⟨h1,h2,h3,h4⟩ | ⟨q,q1,q2,q3,q4,q5,q6,q7⟩
  ·have ih:=enc_size hlm hld ts (a+1) h4 ht' h'
   rw [if_neg (by lia)]
   simp only [List.length_nil]
   exact ⟨far [_,_,_,_] [] (.a (.p (.p (.p Z0 (.n 0)) Z1) (.m 10 Z2)) (.p (.m 10 Z3) (.n 10))) [.a Z0 (.n 10),.a (.p Z1 (.m 10 (.p Z2 (.n 1)))) (.p (.m 10 Z3) (.n 10))] [1,1,1] (fm c1 (fm ih.1 fz)) rfl,far [_,_,_] [] (.a (.p (.p Z0 (.n 1)) (.n 1)) (.p (.p Z1 (.n 0)) Z2)) [.a (.n 1) Z1,.a (.p Z0 (.n 1)) Z2] [1,1,1] (fm c2 (fm ih.2 fz)) rfl⟩
  ·have ih:=enc_size hlm hld ts _ q7 ht' h'
   have hc0:0<p.2:=by exact far [_,_,_] [_] (.e (.z 0) Y0) [.b Z0 Z1,.f Y0 X2,.a Z1 (.p Z2 Z0)] [1,1,-1,1] (fm q2 (fm q6 (fm (ns1 _ _) fz))) rfl
   have hb:=tk_bits hp hc0
   have hd:=h.d p (.head _) hc0
   have c3:=codB_le (k:=10) hd (hld _)
   rw [if_pos hc0,List.length_append,List.length_append,tailB_len,tailB_len]
   exact ⟨far [_,_,_,_,_,_,_,_,_,_] [] (.a (.p (.p (.p Z0 (.p Z1 (.p Z2 Z3))) Z4) (.m 10 Z5)) (.p (.m 10 Z6) (.n 10))) [.a Z0 (.n 10),.a (.n 3) Z7,.a Z2 (.n 10),.a (.p Z4 (.m 10 (.p Z5 Z7))) (.p (.m 10 Z6) (.n 10)),.a Z8 (.n 6),.a Z9 (.n 5),.c (.p Z1 (.n 1)) Z8,.c (.p Z3 (.n 1)) Z9] [1,1,10,1,1,1,1,1,1] (fm c1 (fm q3 (fm c3 (fm ih.1 (fm hb.2.1 (fm hb.2.2.2 (fm (ns2 (far [_] [] (.a (.n 1) Z0) [.a (.n 1) Z0] [1,1] (fm hb.1 fz) rfl)) (fm (ns2 (far [_] [] (.a (.n 1) Z0) [.a (.n 1) Z0] [1,1] (fm hb.2.2.1 fz) rfl)) fz)))))))) rfl,far [_,_,_,_,_,_] [] (.a (.p (.p Z0 (.n 1)) (.n 1)) (.p (.p Z1 (.p Z2 (.p Z3 Z4))) Z5)) [.a (.n 1) Z1,.a (.p Z0 (.n 1)) Z5] [1,1,1] (fm c2 (fm ih.2 fz)) rfl⟩
theorem leb_one {k:Int} (h:k≤63):(leb k).length=1:=by
 unfold leb
 rw [if_neg (by lia)]; rfl
theorem wrGo_len3 {lens:List Int} (hl:∀ i,lens.getD i 0≤63):∀ (l:List Nat) (b:Int),(wrGo lens b l).length≤3*l.length
 | [],_=>Nat.zero_le _
 | s::r,b=>by
  have h1:=leb_len (s-b)
  have h2:=leb_one (hl s)
  have:=wrGo_len3 hl r s
  unfold wrGo
  rw [List.length_append,List.length_append,List.length_cons]
  exact far [_,_,_,_] [] (.a (.p Z0 (.p Z1 Z2)) (.m 3 (.p Z3 (.n 1)))) [.c Z1 (.n 1),.a Z0 (.n 2),.a Z2 (.m 3 Z3)] [1,1,1,1] (fm h2 (fm h1.2 (fm this fz))) rfl
theorem wrLen_len3 {lens:List Int} (hl:∀ i,lens.getD i 0≤63) (hu:(used lens).length≤63):1≤(wrLen lens).length∧(wrLen lens).length≤1+3*(used lens).length:=by
 have h1:=leb_one (k:=(used lens).length) (by exact Int.ofNat_le.mpr ‹_›)
 have:=wrGo_len3 hl (used lens) (-1)
 unfold wrLen
 rw [List.length_append]
 exact ⟨far [_,_] [] (.a (.n 1) (.p Z0 Z1)) [.c Z0 (.n 1)] [1,-1] (fm h1 fz) rfl,far [_,_,_] [] (.a (.p Z0 Z1) (.p (.n 1) (.m 3 Z2))) [.c Z0 (.n 1),.a Z1 (.m 3 Z2)] [1,1,1] (fm h1 (fm this fz)) rfl⟩
theorem leb_bytes {k:Int} (h0:0≤k) (h1:k≤8000):∀ x∈leb k,0≤x∧x<256:=by
 unfold leb
 split
 ·intro x hx
  simp only [List.mem_cons,List.not_mem_nil,or_false] at hx
  rcases hx with rfl | rfl <;> lia
 ·intro x hx
  rw [List.mem_singleton.mp hx]; exact ⟨far [] [_] (.d (.z 0) (.o 2 Y0)) [.d (.z 0) Y0] [1,2] (fm h0 fz) rfl,far [] [_] (.e (.o 2 Y0) (.z 256)) [.g (.e (.z 127) (.o 2 Y0))] [1,1] (fm (by assumption) fz) rfl⟩
theorem wrGo_bytes {lens:List Int} (hl:∀ i,0≤lens.getD i 0∧lens.getD i 0≤63):∀ (l:List Nat) (b:Int),l.Pairwise (·<·)→(∀ s∈l,b<s∧s<900)→-1≤b→∀ x∈wrGo lens b l,0≤x∧x<256
 | [],_,_,_,_,_,hx=>nomatch hx
 | s::r,b,hp,h,hb,x,hx=>by
  have hp':=List.pairwise_cons.mp hp
  have hs:=h s (.head _)
  have:=hl s
  unfold wrGo at hx
  rcases List.mem_append.mp hx with hx | hx
  ·exact leb_bytes (by exact far [_] [_] (.d (.z 0) (.s X0 Y0)) [.e Y0 X0] [1,1] (fm hs.1 fz) rfl) (by exact far [_] [_] (.d (.s X0 Y0) (.z 8000)) [.d (.z (-1)) Y0,.b Z0 (.n 900)] [1,1,1] (fm hb (fm hs.2 fz)) rfl) x hx
  ·rcases List.mem_append.mp hx with hx | hx
   ·exact leb_bytes (by exact far [] [_] (.d (.z 0) Y0) [.d (.z 0) Y0] [1,1] (fm this.1 fz) rfl) (by exact far [] [_] (.d Y0 (.z 8000)) [.d Y0 (.z 63)] [1,1] (fm this.2 fz) rfl) x hx
   ·exact wrGo_bytes hl r s hp'.2 (fun y hy=>⟨by have:=hp'.1 y hy; exact Int.ofNat_lt.mpr ‹_›,(h y (.tail _ hy)).2⟩) (by exact Int.natCast_nonneg _) x hx
theorem wrLen_bytes {lens:List Int} (hlen:lens.length≤900) (hl:∀ i,0≤lens.getD i 0∧lens.getD i 0≤63):∀ x∈wrLen lens,0≤x∧x<256:=fun x hx=>by
 have hu:=used_len lens
 unfold wrLen at hx
 rcases List.mem_append.mp hx with hx | hx
 ·exact leb_bytes (by exact Int.natCast_nonneg _) (by exact far [_,_] [] (.d X0 (.z 8000)) [.a Z0 Z1,.a Z1 (.n 900)] [1,1,1] (fm hu (fm hlen fz)) rfl) x hx
 ·exact wrGo_bytes hl _ _ (List.pairwise_lt_range.filter _) (fun s hs=>⟨by exact Int.natCast_nonneg _,by have:=used_lt hs; exact Nat.lt_of_lt_of_le ‹_› ‹_›⟩) (Int.le_refl _) x hx
theorem codB_01 (cs:List (Int×Int×Int)) (s:Int):∀ b∈codB cs s,b=0∨b=1:=toBits_01 _ _
theorem encT_01 (mc dc:List (Int×Int×Int)):∀ ts:List (Int×Int),∀ b∈encT mc dc ts,b=0∨b=1
 | [],b,hb=>codB_01 mc 256 b hb
 | p::ts,b,hb=>by
  rcases List.mem_append.mp hb with hb | hb
  ·unfold tokB at hb
   rcases List.mem_append.mp hb with hb | hb
   ·exact codB_01 _ _ b hb
   ·split at hb
    ·rcases List.mem_append.mp hb with hb | hb
     ·exact toBits_01 _ _ b hb
     ·rcases List.mem_append.mp hb with hb | hb
      ·exact codB_01 _ _ b hb
      ·exact toBits_01 _ _ b hb
    ·cases hb
  ·exact encT_01 mc dc ts b hb
theorem finC_pad (bs:List Int):finC (List.replicate (padN bs) 0)=true:=by
 rw [finC_iff]
 refine ⟨by rw [List.length_replicate]; unfold padN; exact far [_] [] (.b Z0 (.n 8)) [.b Z0 (.n 8)] [1,1] (fm (nm1 _ _ rfl) fz) rfl,fun b hb=>List.eq_of_mem_replicate hb⟩
theorem bytes_of {bs:List Int} (h:∀ x∈bs,0≤x∧x<256):Bytes bs:=fun k=>by
 rw [List.getD_eq_getElem?_getD]
 cases e:bs[k]? with
 | none=>simp
 | some x=>exact h x (List.mem_of_getElem? e)
theorem sqz_back {ns lm ld:List Int} {w:Int} (hal:Alp ns) (hl:ns.length≤56) (hw:w≤20) (hm:Huff (cntMs ns w) lm) (hd:Huff (cntDs ns w) ld):
  (∀ x∈sqz ns w lm ld,0≤x∧x<256)∧1≤(sqz ns w lm ld).length∧(sqz ns w lm ld).length≤128 ∧
  ∀ m:Int,0≤m→unsq (sqz ns w lm ld) m=if (ns.length:Int)≤m then some ns else none:=by
 have hbn:Bytes ns:=bytes_of fun x hx=>by rcases hal x hx with rfl | rfl | rfl | rfl <;> lia
 have hf:=fits_toks (w:=w) hbn
 obtain ⟨ht,htl⟩:=fits_tk hal hl hw _ 0 hf
 obtain ⟨uM,u256,uMm⟩:=used_M ht
 obtain ⟨uD,uDm⟩:=used_D ht
 have eM:=huff_used hm
 have eD:=huff_used hd
 have lM:=hm.len
 have lD:=hd.len
 have cM:(cntMs ns w).length=265:=by unfold cntMs; rw [bumpI_len,cntM_len,List.length_replicate]
 have cD:(cntDs ns w).length=25:=by unfold cntDs; rw [cntD_len,List.length_replicate]
 have bM:∀ i,0≤lm.getD i 0∧lm.getD i 0≤10:=fun i=>by have:=huff_bd hm i; lia
 have bD:∀ i,0≤ld.getD i 0∧ld.getD i 0≤10:=fun i=>by have:=huff_bd hd i; lia
 have hcM:complete lm=true:=huff_complete hm (fun q=>by rw [q] at u256; cases u256)
 rw [← eM] at uM u256 uMm
 rw [← eD] at uD uDm
 have hC:Cds lm ld (toks ns w):=⟨complete_ok hcM,huff_codesOk hd,u256,uMm,uDm⟩
 have hsz:=enc_size (fun i=>(bM i).2) (fun i=>(bD i).2) (toks ns w) 0 hf ht hC
 have h01:=encT_01 (codes lm) (codes ld) (toks ns w)
 have hpk:=pack_back h01
 have hpl:=padB_len (encT (codes lm) (codes ld) (toks ns w))
 have hge:(encT (codes lm) (codes ld) (toks ns w)).length≤(padB (encT (codes lm) (codes ld) (toks ns w))).length:=by unfold padB; rw [List.length_append]; exact far [_,_] [] (.a Z0 (.p Z0 Z1)) [] [1] fz rfl
 have hE:padB (encT (codes lm) (codes ld) (toks ns w))=encT (codes lm) (codes ld) (toks ns w)++List.replicate (padN (encT (codes lm) (codes ld) (toks ns w))) 0:=rfl
 have hfin:=finC_pad (encT (codes lm) (codes ld) (toks ns w))
 have hdec:=fun m (h0:(0:Int)≤m) f (hfl:(toks ns w).length<f)=>dec_back (m:=m) (w:=w) hal hfin (toks ns w) 0 f hf ht hC (by omega) (Nat.zero_le _) hfl
 rw [← hE] at hdec
 have hdt:dtOf ld=if used ld=[] then none else some (codes ld):=rfl
 unfold sqz
 generalize encT (codes lm) (codes ld) (toks ns w)=E at *
 have hbl:=bitsL_length (bst (padB E)).1
 rw [hpk.1] at hbl
 have w1:=wrLen_len3 (fun i=>by have:=bM i; exact far [] [_] (.d Y0 (.z 63)) [.d Y0 (.z 10)] [1,1] (fm this.2 fz) rfl) (by exact nA uM rfl:(used lm).length≤63)
 have w2:=wrLen_len3 (fun i=>by have:=bD i; exact far [] [_] (.d Y0 (.z 63)) [.d Y0 (.z 10)] [1,1] (fm this.2 fz) rfl) (by exact nA uD rfl:(used ld).length≤63)
 refine ⟨fun x hx=>?_,by rw [List.length_append,List.length_append]; exact far [_,_,_] [] (.a (.n 1) (.p (.p Z0 Z1) Z2)) [.a (.n 1) Z0,.a (.n 1) Z1] [1,1,1] (fm w1.1 (fm w2.1 fz)) rfl,by rw [List.length_append,List.length_append]; exact far [_,_,_,_,_,_,_,_] [] (.a (.p (.p Z0 Z1) Z2) (.n 128)) [.a Z3 (.n 56),.a Z4 (.n 11),.a Z5 (.n 5),.c Z6 (.m 8 Z2),.a Z0 (.p (.n 1) (.m 3 Z4)),.a Z1 (.p (.n 1) (.m 3 Z5)),.a (.p Z7 (.m 10 (.n 0))) (.p (.m 10 Z3) (.n 10)),.a Z6 (.p Z7 (.n 7))] [8,10,24,24,-1,8,8,1,1] (fm hl (fm uM (fm uD (fm hbl (fm w1.2 (fm w2.2 (fm hsz.1 (fm hpl.2 fz)))))))) rfl,fun m h0=>?_⟩
 ·rcases List.mem_append.mp hx with hx | hx
  ·rcases List.mem_append.mp hx with hx | hx
   ·exact wrLen_bytes (by exact far [_,_] [] (.a Z0 (.n 900)) [.c Z0 Z1,.c Z1 (.n 265)] [1,1,1] (fm lM (fm cM fz)) rfl) (fun i=>by have:=bM i; exact ⟨far [] [_] (.d (.z 0) Y0) [.d (.z 0) Y0] [1,1] (fm this.1 fz) rfl,far [] [_] (.d Y0 (.z 63)) [.d Y0 (.z 10)] [1,1] (fm this.2 fz) rfl⟩) x hx
   ·exact wrLen_bytes (by exact far [_,_] [] (.a Z0 (.n 900)) [.c Z0 Z1,.c Z1 (.n 25)] [1,1,1] (fm lD (fm cD fz)) rfl) (fun i=>by have:=bD i; exact ⟨far [] [_] (.d (.z 0) Y0) [.d (.z 0) Y0] [1,1] (fm this.1 fz) rfl,far [] [_] (.d Y0 (.z 63)) [.d Y0 (.z 10)] [1,1] (fm this.2 fz) rfl⟩) x hx
  ·exact hpk.2 x hx
 ·unfold unsq
  rw [List.append_assoc,rdLen_back (by decide) (by lia) (fun i=>by have:=bM i; exact ⟨far [] [_] (.d (.z 0) Y0) [.d (.z 0) Y0] [1,1] (fm this.1 fz) rfl,far [] [_] (.d Y0 (.z 64)) [.d Y0 (.z 10)] [1,1] (fm this.2 fz) rfl⟩)]
  dsimp only
  rw [if_pos hcM,rdLen_back (by decide) (by lia) (fun i=>by have:=bD i; exact ⟨far [] [_] (.d (.z 0) Y0) [.d (.z 0) Y0] [1,1] (fm this.1 fz) rfl,far [] [_] (.d Y0 (.z 64)) [.d Y0 (.z 10)] [1,1] (fm this.2 fz) rfl⟩)]
  dsimp only
  rw [hpk.1]
  have hfl:(toks ns w).length<8*(bst (padB E)).1.length+1:=by exact far [_,_,_,_] [] (.b Z0 (.p (.m 8 Z1) (.n 1))) [.a Z2 Z3,.c Z3 (.m 8 Z1),.a (.p Z0 (.n 1)) Z2] [1,1,1,1] (fm hge (fm hbl (fm hsz.2 fz))) rfl
  have:=hdec m h0 _ hfl
  rw [List.take_zero] at this
  by_cases hu:used ld=[]
  ·rw [hdt,if_pos hu] at this
   rw [if_pos hu,this]
  ·rw [hdt,if_neg hu] at this
   rw [if_neg hu,if_pos (huff_complete hd (by rw [← eD]; exact hu)),this]
theorem cpy_bytes:∀ (k:Nat) (out:List Int) (d:Nat),(∀ x∈out,0≤x∧x<256)→∀ x∈cpy k out d,0≤x∧x<256
 | 0,_,_,h=>h
 | k+1,out,d,h=>by
  unfold cpy
  refine cpy_bytes k _ d fun x hx=>?_
  rcases List.mem_append.mp hx with hx | hx
  ·exact h x hx
  ·rw [List.mem_singleton.mp hx]
   exact bytes_of h _
theorem unsqGo_out {lens:List Int} {dt:Option (List (Int×Int×Int))} {m:Int}:∀ (f:Nat) (bs out:List Int) {res:List Int},(out.length:Int)≤m→(∀ x∈out,0≤x∧x<256)→unsqGo (codes lens) dt m f bs out=some res→(res.length:Int)≤m∧∀ x∈res,0≤x∧x<256
 | 0,_,_,_,_,_,h=>by cases h
 | f+1,bs,out,res,hl,hb,h=>by
  rw [unsqGo_succ] at h
  cases hs:symL (codes lens) (mxl (codes lens)).toNat 0 0 bs with
  | none=>rw [hs] at h; cases h
  | some q=>
   obtain ⟨sy,bs1⟩:=q
   rw [hs] at h
   dsimp only at h
   obtain ⟨x,hx,hxe⟩:=(symL_mem _ _ _ _ hs).1
   obtain ⟨i,hi,e1,e2⟩:=codes_mem hx
   have hsy:0≤sy:=by exact far [_] [_,_] (.d (.z 0) Y0) [.f Y1 X0,.f Y1 Y0] [1,-1,1] (fm e1 (fm hxe fz)) rfl
   unfold unsqStep at h
   split at h
   ·split at h
    ·cases h; exact ⟨hl,hb⟩
    ·cases h
   ·split at h
    ·rename_i h256
     split at h
     ·cases h
     ·refine unsqGo_out f _ _ (by rw [List.length_append,List.length_singleton]; exact far [_] [_] (.d (.t (.p Z0 (.n 1))) Y0) [.g (.d Y0 X0)] [1,1] (fm (by assumption) fz) rfl) (fun y hy=>?_) h
      rcases List.mem_append.mp hy with hy | hy
      ·exact hb y hy
      ·rw [List.mem_singleton.mp hy]; exact ⟨far [] [_] (.d (.z 0) Y0) [.d (.z 0) Y0] [1,1] (fm hsy fz) rfl,far [] [_] (.e Y0 (.z 256)) [.e Y0 (.z 256)] [1,1] (fm h256 fz) rfl⟩
    ·split at h
     ·cases h
     ·split at h
      ·cases h
      ·split at h
       ·cases h
       ·split at h
        ·cases h
        ·split at h
         ·cases h
         ·split at h
          ·rename_i hcond
           refine unsqGo_out f _ _ (by rw [cpy_length]; have:=hcond.2; assumption) (cpy_bytes _ _ _ hb) h
          ·cases h
theorem unsq_out {bs out:List Int} {m:Int} (h0:0≤m) (h:unsq bs m=some out):(out.length:Int)≤m∧∀ x∈out,0≤x∧x<256:=by
 unfold unsq at h
 split at h
 ·cases h
 ·split at h
  ·split at h
   ·cases h
   ·split at h
    ·exact unsqGo_out _ _ _ (by simpa using h0) (by simp) h
    ·split at h
     ·exact unsqGo_out _ _ _ (by simpa using h0) (by simp) h
     ·cases h
  ·cases h
end Mine
namespace Mine
open PySem
theorem pureLaw:PureLaw where
 fits:=fun ns w hal hl h1 h2=>fits_toks (bytes_of fun x hx=>by rcases hal x hx with rfl | rfl | rfl | rfl <;> lia)
 tok:=fun ns w hal hl h1 h2=>by
  have hf:=fits_toks (w:=w) (ns:=ns) (bytes_of fun x hx=>by rcases hal x hx with rfl | rfl | rfl | rfl <;> lia)
  obtain ⟨ht,htl⟩:=fits_tk hal hl h2 _ 0 hf
  exact ⟨fun p hp=>tk_ok (ht p hp),by lia⟩
 sym:=fun ns w hal hl h1 h2=>by
  have hf:=fits_toks (w:=w) (ns:=ns) (bytes_of fun x hx=>by rcases hal x hx with rfl | rfl | rfl | rfl <;> lia)
  obtain ⟨ht,htl⟩:=fits_tk hal hl h2 _ 0 hf
  have a:=(used_M ht).1
  have b:=(used_D ht).1
  exact ⟨by lia,by lia⟩
 back:=fun ns w lm ld hal hl h1 h2 hm hd=>by
  obtain ⟨a,b,c,d⟩:=sqz_back hal hl h2 hm hd
  refine ⟨bytes_of a,a,b,c,fun m h=>?_,fun hne=>?_⟩
  ·rw [d m (by lia),if_pos h]
  ·have:=List.length_pos_iff.mpr hne
   rw [d _ (by lia),if_neg (by lia)]
 odd:=fun bs out h=>by
  have:=unsq_out (by decide) h
  exact ⟨by omega,this.2⟩
end Mine
namespace Mine
open PySem PySem.W PyProof.Rows PySem.Spec PySem.Calls
theorem ints_of {R:WRecords} {cl:Str→Option Addr} {h:Heap}:∀ (xs:List WData) (vs:List Value) (as:List Addr),WShape.hasItems R xs .int=true→ReadsAllW R cl h vs xs as→∃ ns:List Int,oks (ns.map .int) vs∧ns.length=xs.length
 | [],vs,as,_,hr=>by
  cases hr
  exact ⟨[],trivial,rfl⟩
 | x::xs,vs,as,hx,hr=>by
  unfold WShape.hasItems at hx
  obtain ⟨h1,h2⟩:=Bool.and_eq_true_iff.mp hx
  obtain ⟨i,rfl⟩:=hasW_int h1
  cases hr with
  | cons r1 r2=>
   cases r1
   obtain ⟨ns,o1,o2⟩:=ints_of xs _ _ h2 r2
   exact ⟨i::ns,⟨⟨_,rfl⟩,o1⟩,by rw [List.length_cons,List.length_cons,o2]⟩
theorem few_b {xs:List WData} (d:Bool) (h:WTm.holds [] (.and (.not (.lit (.bool d))) (.lit (.bool true))) { args:=[.list xs] }=true):d=false:=by
 cases d with
 | false=>rfl
 | true=>exact Bool.noConfusion h
theorem fin_t (xs:List WData):(WShape.has [] (.bool true) .bool&&(WTm.eq .res (.lit (.bool true))).holds [] { args:=[.list xs],res:=some (.bool true),after:=[.list xs] })=true:=by
 have e1:WTm.value [] (WTm.eq .res (.lit (.bool true))) { args:=[.list xs],res:=some (.bool true),after:=[.list xs] }=some (.bool (W.same (.bool true) (.bool true))):=rfl
 have e2:(WTm.eq .res (.lit (.bool true))).holds [] { args:=[.list xs],res:=some (.bool true),after:=[.list xs] }=true:=by
  unfold WTm.holds
  rw [e1,W.same_self]
 rw [e2,Bool.and_true]
 rfl
theorem fin:PySem.Challenge.rw_pq0755_01.Holds:=by
 refine holdsOf ?_
 intro w s₀ s₁ mg mb G Y fa o pm cd doc dV kV ho hdt hcd hD hmg hg args vals as hpre hlay hrd hwl hlo
 clear hdt hcd hD
 obtain ⟨hsh,hcond⟩:=pre_splitW hpre
 have hsh:WShape.hasAll [] args [.list .int]=true:=hsh
 obtain ⟨d,r,rfl,hd1,hr⟩:=hasAllW_cons hsh
 obtain rfl:=hasAllW_nil hr
 obtain ⟨xs,rfl,hi⟩:=hasW_list hd1
 have hlen:xs.length≤63:=by
  have h:=of_decide_eq_false (few_b (xs:=xs) (decide ((63:Int)<xs.length)) hcond)
  exact Int.ofNat_le.mp (Int.not_lt.mp h)
 have X:(frag w.params).In s₁.heap:=kIn_of Y
 have T:TopRead view LW mg mb s₁.heap:=topRead_of G.T
 have hfa:fa=437:=by
  have h1:mg (Str.ofString "law")=some (.ref 437):=mg_of X T.g (by k_is)
  have h2:mg (Str.ofString "law")=some (.ref fa):=hmg
  rw [h1] at h2
  injection h2 with h2
  injection h2 with h2
  exact h2.symm
 subst hfa
 cases hrd with
 | cons r1 r2=>
  cases r2
  cases r1 with
  | list h1 h2 h3 h4=>
   obtain ⟨ns,o1,o2⟩:=ints_of _ _ _ hi h4
   have hz:ns.length≤1000:=by rw [o2]; exact Nat.le_trans hlen (by decide)
   have hbig:∃ a o,400≤a∧s₁.heap.get? a=some o:=⟨437,_,by decide,X 437 _ (by k_is)⟩
   have hB:BOk ⟨PySem.Challenge.rw_pq0755_01.row.toRowW.prog,w,s₁.heap,s₁.gens,s₁.os,mg,mb,51,hbig⟩:=⟨X,T,rfl⟩
   have H0:St ⟨PySem.Challenge.rw_pq0755_01.row.toRowW.prog,w,s₁.heap,s₁.gens,s₁.os,mg,mb,51,hbig⟩ [] s₁:=by
    refine ⟨fun _ _ e=>e,fun p hp=>(by cases hp),fun p hp=>(by cases hp),List.nodup_nil,rfl,rfl,fun p hp=>(by cases hp)⟩
   have R:Rm callerA [] (0+24):=⟨rfl,rfl,by decide,by decide⟩
   refine wp_call (B:=⟨PySem.Challenge.rw_pq0755_01.row.toRowW.prog,w,s₁.heap,s₁.gens,s₁.os,mg,mb,51,hbig⟩) (law_spec hB pureLaw R (FrOk.nil _) H0 ⟨_,h1,h2,_,h3⟩ o1 hz fun s' H=>?_)
   refine ⟨.inl ⟨.bool true,.bool true,[],rfl,fun _=>rfl,.bool true,?_,fun _=>⟨List.nodup_nil,fun _ h=>nomatch h⟩⟩,.of_keep H.keep,H.os,.of_eq (H.gens.trans hg)⟩
   exact fin_t xs
end Mine
theorem PySem.Challenge.cw_pq0755_01_holds : PySem.Challenge.rw_pq0755_01.Holds :=
  Mine.fin
